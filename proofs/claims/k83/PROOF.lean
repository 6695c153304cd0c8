import PyProof.Rows.All
import Wide.All
import OpenK.AllK
import Wide.FinOn
import HandS.ForMost
import HandS.Exc
import HandS.TryOnly
import HandS.ExcOwn
import HandS.CallSlots
import HandS.Defaults
import HandS.Flow
import HandS.HeadHook1
import HandS.Wide
import HandS.TupAny
import HandS.IsInst
import KE.DataEq
import HandS.SortInts
import HandS.FStr
import HandS.More
import HandS.Star
import KE.KOpsOwn
import HandS.TupLe
import HandS.Style
import HandS.TupMul
import OpenK.KMeth
import HandS.Dict
import KE.GoesEnum
import HandS.Iter
import KE.KNest
import KE.KNestM
import HandS.HeadHook2
import HandS.HeadHook3
import HandS.HeadHook4
import KE.KStateDown
import HandS.Ends
import HandS.Head0
import HandS.Head1
import HandS.Head2
import HandS.HeadEnd
import HandS.SetFor
import HandS.Strs
import HandS.ExcIs
import HandS.ExcField
import KE.KExcIs
import HandS.ExcInit
import HandS.ExcSuper
import HandS.Nested
import KE.KExcSuper
import KE.KSuper
import HandS.HeadNt
import HandS.ClsMeth
import KE.KxField
import PyProof.StrBlock2
import PySem.Challenge.RW_drawnlayers_k83_listings
import PyProof.Rows.RegStrFacts
set_option Elab.async false
set_option linter.all false
set_option maxRecDepth 100000
set_option maxHeartbeats 0
namespace ND
open PySem L2

/-- a guard: what is asked is never computed -/
def Ok (p : Prop) : Prop := p
noncomputable instance {p : Prop} : Decidable (Ok p) := Classical.propDecidable p
theorem ok_of {p : Prop} (h : decide (Ok p) = true) : p := of_decide_eq_true (p := Ok p) h
theorem ok_mk {p : Prop} (h : p) : decide (Ok p) = true := decide_eq_true (p := Ok p) h
/-- data: pure values; ref n: the n-th object of the store -/
inductive D where
  | non | bl (b : Bool) | int (i : Int) | str (s : Str)
  | tup (xs : List D) | lst (xs : List D) | ref (n : Nat)
  | ins (k : String) (fs : List String) (xs : List D)
  | dK (ks : List Key) (xs : List D) | dT (ks : List (List Key)) (xs : List D)
  | glo (x : String) | ty (n : String) | ext (ns : List Int)
  | exc (k : String) (fs : List String) (xs : List D)
instance : Inhabited D := ⟨.non⟩
/-- live objects -/
inductive SO where
  | lst (xs : List D) | ins (k : String) (fs : List String) (xs : List D) | dK (ks : List Key) (xs : List D) | dT (ks : List (List Key)) (xs : List D)
abbrev Sto := List SO
abbrev Env := List (Option D)
inductive Res (α : Type) where
  | ok (a : α) (st : Sto) | exc (k : String) (fs : List String) (xs : List D) (st : Sto) | bad
def Res.bind {α β : Type} (r : Res α) (f : α → Sto → Res β) : Res β := match r with
  | .ok a st => f a st
  | .exc k fs xs st => .exc k fs xs st
  | .bad => .bad
@[simp] theorem Res.bind_ok {α β : Type} (a : α) (st : Sto) (f : α → Sto → Res β) : (Res.ok a st).bind f = f a st := rfl
@[simp] theorem Res.bind_exc {α β : Type} (k : String) (fs : List String) (xs : List D) (st : Sto) (f : α → Sto → Res β) : (Res.exc k fs xs st : Res α).bind f = .exc k fs xs st := rfl
@[simp] theorem Res.bind_bad {α β : Type} (f : α → Sto → Res β) : (Res.bad : Res α).bind f = .bad := rfl
inductive SRes where
  | nx (e : Env) (st : Sto) | rt (d : D) (st : Sto) | bk (e : Env) (st : Sto) | ct (e : Env) (st : Sto)
  | exc (k : String) (fs : List String) (xs : List D) (e : Env) (st : Sto) | bad

/-! ### worlds -/
structure Wd where
  H : Hp
  mu : List Addr
  xi : List Addr
def Wd.fr (w : Wd) : Hp := fun a => if a ∈ w.mu ∨ a ∈ w.xi then none else w.H a
theorem Wd.fr_some {w : Wd} {a : Addr} {o : HO} : w.fr a = some o ↔ (a ∉ w.mu ∧ a ∉ w.xi ∧ w.H a = some o) := by
  unfold Wd.fr
  by_cases h : a ∈ w.mu ∨ a ∈ w.xi
  · rw [if_pos h]
    constructor
    · intro e
      cases e
    · rintro ⟨h1, h2, _⟩
      rcases h with h | h
      · exact absurd h h1
      · exact absurd h h2
  · rw [if_neg h]
    constructor
    · intro e
      exact ⟨fun q => h (.inl q), fun q => h (.inr q), e⟩
    · rintro ⟨_, _, e⟩
      exact e
/-- what is frozen stays, the store's addresses stay -/
structure Wd.Sub (w w' : Wd) : Prop where
  fr : ∀ a o, w.fr a = some o → w'.fr a = some o
  mu : w.mu <+: w'.mu
theorem Wd.Sub.refl (w : Wd) : w.Sub w := ⟨fun _ _ h => h, List.prefix_rfl⟩
theorem Wd.Sub.trans {a b c : Wd} (h : a.Sub b) (h' : b.Sub c) : a.Sub c := ⟨fun x o e => h'.fr x o (h.fr x o e), h.mu.trans h'.mu⟩
/-- .. and what is hidden is as it was -/
structure Wd.Le (w w' : Wd) : Prop where
  sub : w.Sub w'
  xi : w'.xi = w.xi
  hid : ∀ a ∈ w.xi, w'.H a = w.H a
theorem Wd.Le.refl (w : Wd) : w.Le w := ⟨.refl w, rfl, fun _ _ => rfl⟩
theorem Wd.Le.trans {a b c : Wd} (h : a.Le b) (h' : b.Le c) : a.Le c := ⟨h.sub.trans h'.sub, h'.xi.trans h.xi, fun x hx => (h'.hid x (by rw [h.xi]; exact hx)).trans (h.hid x hx)⟩

/-! ### names -/
/-- the global of that name -/
def gaS (K : PySem.W.Frag) (x : String) : Addr := He.ga K (Str.ofString x)
theorem ofString_inj {a b : String} (h : Str.ofString a = Str.ofString b) : a = b := by
  rw [Str.ofString_eq_toList, Str.ofString_eq_toList] at h
  have h2 : (a.toList.map Char.toNat).toArray = (b.toList.map Char.toNat).toArray := by injection h
  have h3 : a.toList.map Char.toNat = b.toList.map Char.toNat := by simpa using h2
  have h4 : a.toList = b.toList := by
    refine List.map_inj_right (f := Char.toNat) (fun x y e => ?_) |>.mp h3
    exact Char.toNat_inj.mp e
  exact String.toList_inj.mp h4
/-! ### what a datum stands for -/
theorem ex_rd {H H' : Hp} {a : Addr} {u : HO} (e : ∀ a o, H a = some o → H' a = some o) (h : Rd H a u) : Rd H' a u := by
  rcases h with h | ⟨o, h⟩
  · exact Or.inl (e a _ h)
  · exact Or.inr ⟨o, e a _ h⟩
theorem ex_l {K : PySem.W.Frag} {H H' : Hp} {a : Addr} {xs : List V} (e : ∀ a o, H a = some o → H' a = some o) (h : SqL K H a xs) : SqL K H' a xs := by
  rcases h with h | h
  · exact Or.inl (ex_rd e h)
  · exact Or.inr h
theorem ex_t {K : PySem.W.Frag} {H H' : Hp} {a : Addr} {xs : List V} (e : ∀ a o, H a = some o → H' a = some o) (h : SqT K H a xs) : SqT K H' a xs := by
  rcases h with h | h
  · exact Or.inl (ex_rd e h)
  · exact Or.inr h

section
variable (K : PySem.W.Frag)
mutual
def Rel (w : Wd) : D → V → Prop
  | .non, v => v = .non
  | .bl b, v => v = .bl b
  | .int i, v => v = .int i
  | .str s, v => v = .str s
  | .tup xs, v => ∃ a vs, v = .ref a ∧ w.fr a = some (.tup vs) ∧ Rels w xs vs
  | .lst xs, v => ∃ a vs, v = .ref a ∧ w.fr a = some (.lst vs) ∧ Rels w xs vs
  | .ref n, v => ∃ a, v = .ref a ∧ w.mu[n]? = some a
  | .ins k fs xs, v => ∃ a dx gs, v = .ref a ∧ w.fr a = some (.ins (gaS K k) dx gs) ∧ gs.map (·.1) = fs.map Str.ofString ∧ Rels w xs (gs.map (·.2))
  | .dK ks xs, v => ∃ a kvs, v = .ref a ∧ w.fr a = some (.dK kvs) ∧ kvs.map (·.1) = ks ∧ Rels w xs (kvs.map (·.2))
  | .dT ks xs, v => ∃ a kvs, v = .ref a ∧ w.fr a = some (.dT kvs) ∧ kvs.map (·.1) = ks ∧ Rels w xs (kvs.map (·.2))
  | .glo x, v => v = .ref (gaS K x)
  | .ty n, v => v = .ty n
  | .ext ns, v => ∃ a, v = .ref a ∧ SqL K w.fr a (ns.map V.int)
  | .exc _ _ _, _ => True
def Rels (w : Wd) : List D → List V → Prop
  | [], vs => vs = []
  | x :: xs, vs => ∃ v r, vs = v :: r ∧ Rel w x v ∧ Rels w xs r
end
end
section
variable {K : PySem.W.Frag}
mutual
theorem Rel.sub {w w' : Wd} (h : w.Sub w') : ∀ (d : D) (v : V), Rel K w d v → Rel K w' d v
  | .non, _, r => r
  | .bl _, _, r => r
  | .int _, _, r => r
  | .str _, _, r => r
  | .tup xs, _, r => by
    unfold Rel at r ⊢
    obtain ⟨a, vs, e, q, s⟩ := r
    exact ⟨a, vs, e, h.fr _ _ q, Rels.sub h xs vs s⟩
  | .lst xs, _, r => by
    unfold Rel at r ⊢
    obtain ⟨a, vs, e, q, s⟩ := r
    exact ⟨a, vs, e, h.fr _ _ q, Rels.sub h xs vs s⟩
  | .ref n, _, r => by
    unfold Rel at r ⊢
    obtain ⟨a, e, q⟩ := r
    obtain ⟨t, ht⟩ := h.mu
    refine ⟨a, e, ?_⟩
    rw [← ht, List.getElem?_append_left (List.getElem?_eq_some_iff.mp q).1]
    exact q
  | .ins k fs xs, _, r => by
    unfold Rel at r ⊢
    obtain ⟨a, dx, gs, e, q, s, t⟩ := r
    exact ⟨a, dx, gs, e, h.fr _ _ q, s, Rels.sub h xs _ t⟩
  | .dK ks xs, _, r => by
    unfold Rel at r ⊢
    obtain ⟨a, gs, e, q, s, t⟩ := r
    exact ⟨a, gs, e, h.fr _ _ q, s, Rels.sub h xs _ t⟩
  | .dT ks xs, _, r => by
    unfold Rel at r ⊢
    obtain ⟨a, gs, e, q, s, t⟩ := r
    exact ⟨a, gs, e, h.fr _ _ q, s, Rels.sub h xs _ t⟩
  | .glo _, _, r => r
  | .ext _, _, r => by
    unfold Rel at r ⊢
    obtain ⟨a, e, q⟩ := r
    exact ⟨a, e, ex_l h.fr q⟩
  | .ty _, _, r => r
  | .exc _ _ _, _, r => r
theorem Rels.sub {w w' : Wd} (h : w.Sub w') : ∀ (d : List D) (v : List V), Rels K w d v → Rels K w' d v
  | [], _, r => r
  | x :: xs, _, r => by
    unfold Rels at r ⊢
    obtain ⟨v, rr, e, q, s⟩ := r
    exact ⟨v, rr, e, Rel.sub h x v q, Rels.sub h xs rr s⟩
end
theorem Rel.le {w w' : Wd} {d : D} {v : V} (r : Rel K w d v) (h : w.Le w') : Rel K w' d v := Rel.sub h.sub d v r
theorem Rels.le {w w' : Wd} {d : List D} {v : List V} (r : Rels K w d v) (h : w.Le w') : Rels K w' d v := Rels.sub h.sub d v r
theorem Rels.length {w : Wd} : ∀ {d : List D} {v : List V}, Rels K w d v → d.length = v.length
  | [], _, r => by
    unfold Rels at r
    subst r
    rfl
  | x :: xs, _, r => by
    unfold Rels at r
    obtain ⟨v, rr, rfl, q, s⟩ := r
    show xs.length + 1 = rr.length + 1
    rw [Rels.length s]
theorem Rels.nil {w : Wd} : Rels K w [] [] := by
  unfold Rels
  rfl
theorem Rels.cons {w : Wd} {x : D} {v : V} {xs : List D} {vs : List V} (h : Rel K w x v) (t : Rels K w xs vs) : Rels K w (x :: xs) (v :: vs) := by
  unfold Rels
  exact ⟨v, vs, rfl, h, t⟩
theorem Rels.inv {w : Wd} {x : D} {xs : List D} {vs : List V} (h : Rels K w (x :: xs) vs) : ∃ v r, vs = v :: r ∧ Rel K w x v ∧ Rels K w xs r := by
  unfold Rels at h
  exact h
theorem Rels.get {w : Wd} : ∀ {d : List D} {v : List V} {i : Nat} {x : D}, Rels K w d v → d[i]? = some x → ∃ u, v[i]? = some u ∧ Rel K w x u
  | [], _, _, _, _, e => by simp at e
  | x :: xs, _, 0, y, r, e => by
    obtain ⟨v, rr, rfl, q, s⟩ := r.inv
    simp at e
    subst e
    exact ⟨v, rfl, q⟩
  | x :: xs, _, i + 1, y, r, e => by
    obtain ⟨v, rr, rfl, q, s⟩ := r.inv
    simpa using Rels.get (i := i) s (by simpa using e)
theorem Rels.append {w : Wd} : ∀ {d d' : List D} {v v' : List V}, Rels K w d v → Rels K w d' v' → Rels K w (d ++ d') (v ++ v')
  | [], _, _, _, r, r' => by
    unfold Rels at r
    subst r
    exact r'
  | x :: xs, _, _, _, r, r' => by
    obtain ⟨v, rr, rfl, q, s⟩ := r.inv
    exact .cons q (Rels.append s r')
theorem Rels.take {w : Wd} : ∀ {d : List D} {v : List V} (n : Nat), Rels K w d v → Rels K w (d.take n) (v.take n)
  | _, _, 0, _ => by
    rw [List.take_zero, List.take_zero]
    exact .nil
  | [], _, n + 1, r => by
    unfold Rels at r
    subst r
    exact .nil
  | x :: xs, _, n + 1, r => by
    obtain ⟨v, rr, rfl, q, s⟩ := r.inv
    exact .cons q (Rels.take n s)
theorem Rels.drop {w : Wd} : ∀ {d : List D} {v : List V} (n : Nat), Rels K w d v → Rels K w (d.drop n) (v.drop n)
  | _, _, 0, r => r
  | [], _, n + 1, r => by
    unfold Rels at r
    subst r
    exact .nil
  | x :: xs, _, n + 1, r => by
    obtain ⟨v, rr, rfl, q, s⟩ := r.inv
    exact Rels.drop n s
theorem Rels.set {w : Wd} {y : D} {u : V} (h : Rel K w y u) : ∀ {d : List D} {v : List V} (n : Nat), Rels K w d v → Rels K w (d.set n y) (v.set n u)
  | [], _, n, r => by
    unfold Rels at r
    subst r
    exact .nil
  | x :: xs, _, 0, r => by
    obtain ⟨v, rr, rfl, q, s⟩ := r.inv
    exact .cons h s
  | x :: xs, _, n + 1, r => by
    obtain ⟨v, rr, rfl, q, s⟩ := r.inv
    exact .cons q (Rels.set h n s)
theorem Rels.eraseIdx {w : Wd} : ∀ {d : List D} {v : List V} (n : Nat), Rels K w d v → Rels K w (d.eraseIdx n) (v.eraseIdx n)
  | [], _, n, r => by
    unfold Rels at r
    subst r
    exact .nil
  | x :: xs, _, 0, r => by
    obtain ⟨v, rr, rfl, q, s⟩ := r.inv
    exact s
  | x :: xs, _, n + 1, r => by
    obtain ⟨v, rr, rfl, q, s⟩ := r.inv
    exact .cons q (Rels.eraseIdx n s)
theorem Rels.reverse {w : Wd} : ∀ {d : List D} {v : List V}, Rels K w d v → Rels K w d.reverse v.reverse
  | [], _, r => by
    unfold Rels at r
    subst r
    exact .nil
  | x :: xs, _, r => by
    obtain ⟨v, rr, rfl, q, s⟩ := r.inv
    rw [List.reverse_cons, List.reverse_cons]
    exact (Rels.reverse s).append (.cons q .nil)
theorem Rels.ints {w : Wd} : ∀ {ns : List Int} {v : List V}, Rels K w (ns.map D.int) v → v = ns.map V.int
  | [], _, r => by
    unfold Rels at r
    exact r
  | x :: xs, _, r => by
    obtain ⟨v, rr, rfl, q, s⟩ := Rels.inv (x := D.int x) r
    unfold Rel at q
    subst q
    rw [Rels.ints s]
    rfl
theorem Rels.ofInts {w : Wd} : ∀ (ns : List Int), Rels K w (ns.map D.int) (ns.map V.int)
  | [] => .nil
  | x :: xs => .cons (by unfold Rel; rfl) (Rels.ofInts xs)

/-! ### the store -/
def RelO (K : PySem.W.Frag) (w : Wd) : SO → HO → Prop
  | .lst xs, h => ∃ vs, h = .lst vs ∧ Rels K w xs vs
  | .ins k fs xs, h => ∃ dx gs, h = .ins (gaS K k) dx gs ∧ gs.map (·.1) = fs.map Str.ofString ∧ Rels K w xs (gs.map (·.2))
  | .dK ks xs, h => ∃ kvs, h = .dK kvs ∧ kvs.map (·.1) = ks ∧ Rels K w xs (kvs.map (·.2))
  | .dT ks xs, h => ∃ kvs, h = .dT kvs ∧ kvs.map (·.1) = ks ∧ Rels K w xs (kvs.map (·.2))
theorem RelO.sub {w w' : Wd} (h : w.Sub w') : ∀ {o : SO} {u : HO}, RelO K w o u → RelO K w' o u
  | .lst xs, _, ⟨vs, e, r⟩ => ⟨vs, e, Rels.sub h _ _ r⟩
  | .ins k fs xs, _, ⟨dx, gs, e, f, r⟩ => ⟨dx, gs, e, f, Rels.sub h _ _ r⟩
  | .dK ks xs, _, ⟨gs, e, f, r⟩ => ⟨gs, e, f, Rels.sub h _ _ r⟩
  | .dT ks xs, _, ⟨gs, e, f, r⟩ => ⟨gs, e, f, Rels.sub h _ _ r⟩
structure Corr (K : PySem.W.Frag) (w : Wd) (st : Sto) : Prop where
  nd : w.mu.Nodup
  len : st.length = w.mu.length
  apart : ∀ a ∈ w.mu, a ∉ w.xi
  hid : ∀ a ∈ w.xi, ∃ u, w.H a = some u
  obj : ∀ (n : Nat) (a : Addr) (o : SO), w.mu[n]? = some a → st[n]? = some o → ∃ u, w.H a = some u ∧ RelO K w o u
theorem Corr.here {w : Wd} {st : Sto} (c : Corr K w st) {a : Addr} (h : a ∈ w.mu) : ∃ u, w.H a = some u := by
  obtain ⟨n, hn⟩ := List.getElem?_of_mem h
  have hl : n < st.length := by
    rw [c.len]
    exact (List.getElem?_eq_some_iff.mp hn).1
  obtain ⟨u, e, _⟩ := c.obj n a st[n] hn (List.getElem?_eq_getElem hl)
  exact ⟨u, e⟩
/-- a new object, frozen from the start -/
theorem Corr.new {w : Wd} {st : Sto} (c : Corr K w st) {p : Addr} (o : HO) (hp : w.H p = none) :
    let w' : Wd := ⟨upd w.H p o, w.mu, w.xi⟩
    w.Le w' ∧ Corr K w' st ∧ w'.fr p = some o := by
  have pm : p ∉ w.mu := fun h => by
    obtain ⟨u, e⟩ := c.here h
    rw [hp] at e
    cases e
  have px : p ∉ w.xi := fun h => by
    obtain ⟨u, e⟩ := c.hid p h
    rw [hp] at e
    cases e
  have S : w.Sub ⟨upd w.H p o, w.mu, w.xi⟩ := ⟨fun a u h => by
    obtain ⟨h1, h2, h3⟩ := Wd.fr_some.mp h
    exact Wd.fr_some.mpr ⟨h1, h2, by
      show upd w.H p o a = some u
      rw [upd_ne (fun e => by rw [e, hp] at h3; cases h3)]
      exact h3⟩, List.prefix_rfl⟩
  refine ⟨⟨S, rfl, fun a ha => ?_⟩, ⟨c.nd, c.len, c.apart, fun a ha => ?_, fun n a u h1 h2 => ?_⟩, ?_⟩
  · show upd w.H p o a = w.H a
    exact upd_ne fun e => px (by rw [← e]; exact ha)
  · obtain ⟨u, e⟩ := c.hid a ha
    refine ⟨u, ?_⟩
    show upd w.H p o a = some u
    rw [upd_ne fun q => px (by rw [← q]; exact ha)]
    exact e
  · obtain ⟨v, e, r⟩ := c.obj n a u h1 h2
    refine ⟨v, ?_, RelO.sub S r⟩
    show upd w.H p o a = some v
    rw [upd_ne fun q => pm (by rw [← q]; exact List.mem_of_getElem? h1)]
    exact e
  · exact Wd.fr_some.mpr ⟨pm, px, upd_same⟩
end
end ND
noncomputable section
namespace ND
open PySem L2
section
variable {K : PySem.W.Frag}
/-! ### environments, results -/
def REnv (K : PySem.W.Frag) (w : Wd) (env : Env) (σ : L2.St) : Prop := env.length = σ.length ∧ ∀ (i : Nat) (d : D), env[i]? = some (some d) → ∃ v, σ[i]? = some (some v) ∧ Rel K w d v
theorem REnv.sub {w w' : Wd} {env : Env} {σ : L2.St} (r : REnv K w env σ) (h : w.Sub w') : REnv K w' env σ := ⟨r.1, fun i d e => by
  obtain ⟨v, q, s⟩ := r.2 i d e
  exact ⟨v, q, Rel.sub h d v s⟩⟩
theorem REnv.le {w w' : Wd} {env : Env} {σ : L2.St} (r : REnv K w env σ) (h : w.Le w') : REnv K w' env σ := r.sub h.sub
theorem REnv.set {w : Wd} {env : Env} {σ : L2.St} (r : REnv K w env σ) (i : Nat) {d : D} {v : V} (h : Rel K w d v) : REnv K w (env.set i (some d)) (σ.set i (some v)) := by
  refine ⟨by rw [List.length_set, List.length_set, r.1], fun j e hj => ?_⟩
  by_cases q : i = j
  · subst q
    by_cases l : i < env.length
    · rw [List.getElem?_set_self l] at hj
      cases hj
      exact ⟨v, List.getElem?_set_self (by rw [← r.1]; exact l), h⟩
    · rw [List.getElem?_eq_none (by rw [List.length_set]; exact Nat.le_of_not_lt l)] at hj
      cases hj
  · rw [List.getElem?_set_ne q] at hj ⊢
    exact r.2 j e hj
theorem REnv.unset {w : Wd} {env : Env} {σ : L2.St} (r : REnv K w env σ) (i : Nat) : REnv K w (env.set i none) (σ.set i none) := by
  refine ⟨by rw [List.length_set, List.length_set, r.1], fun j e hj => ?_⟩
  by_cases q : i = j
  · subst q
    by_cases l : i < env.length
    · rw [List.getElem?_set_self l] at hj
      cases hj
    · rw [List.getElem?_eq_none (by rw [List.length_set]; exact Nat.le_of_not_lt l)] at hj
      cases hj
  · rw [List.getElem?_set_ne q] at hj ⊢
    exact r.2 j e hj
def wipeD (env : Env) : List Nat → Env
  | [] => env
  | v :: vs => (wipeD env vs).set v none
theorem REnv.wipe {w : Wd} {env : Env} {σ : L2.St} (r : REnv K w env σ) : ∀ vs : List Nat, REnv K w (wipeD env vs) (L2.wipe σ vs)
  | [] => r
  | v :: vs => (REnv.wipe r vs).unset v
/-- an exception's own dict -/
def XRel (K : PySem.W.Frag) (w : Wd) (fs : List String) (xs : List D) (dd : Option Addr) : Prop :=
  (fs = [] ∧ xs = [] ∧ dd = none) ∨ ∃ d gs, dd = some d ∧ w.fr d = some (.xd gs) ∧ gs.map (·.1) = fs.map Str.ofString ∧ Rels K w xs (gs.map (·.2))
theorem XRel.sub {w w' : Wd} {fs : List String} {xs : List D} {dd : Option Addr} (r : XRel K w fs xs dd) (h : w.Sub w') : XRel K w' fs xs dd := by
  rcases r with r | ⟨d, gs, e, f, g, s⟩
  · exact .inl r
  · exact .inr ⟨d, gs, e, h.fr _ _ f, g, Rels.sub h _ _ s⟩
def Post (K : PySem.W.Frag) {α ν : Type} (R : Wd → α → ν → Prop) (w : Wd) (σ : L2.St) (Wx : WX) (Q : ν → Hp → Prop) : Res α → Prop
  | .ok a st => ∀ w' v, w.Le w' → R w' a v → Corr K w' st → Q v w'.H
  | .exc k fs xs st => ∀ w' dd, w.Le w' → Corr K w' st → XRel K w' fs xs dd → Wx (.ref (gaS K k)) dd σ w'.H
  | .bad => False
theorem Post.le {α ν : Type} {R : Wd → α → ν → Prop} {w w1 : Wd} {σ : L2.St} {Wx : WX} {Q : ν → Hp → Prop} {r : Res α} (h : Post K R w σ Wx Q r) (l : w.Le w1) : Post K R w1 σ Wx Q r := by
  cases r with
  | ok a st => exact fun w' v l' => h w' v (l.trans l')
  | exc k fs xs st => exact fun w' v l' => h w' v (l.trans l')
  | bad => exact h
abbrev M (α : Type) : Type := Env → Sto → Res α
def tG (K : PySem.W.Frag) {α ν : Type} (R : Wd → α → ν → Prop) (Wx : WX) (m : M α) : L2.St → Hp → (ν → Hp → Prop) → Prop := fun σ H Q =>
  ∃ mu xi env st, REnv K ⟨H, mu, xi⟩ env σ ∧ Corr K ⟨H, mu, xi⟩ st ∧ Post K R ⟨H, mu, xi⟩ σ Wx Q (m env st)
abbrev tE (K : PySem.W.Frag) (Wx : WX) (m : M D) : TE := tG K (Rel K) Wx m
abbrev tA (K : PySem.W.Frag) (Wx : WX) (m : M (List D)) : TA := tG K (Rels K) Wx m
abbrev RB : Wd → Bool → Bool → Prop := fun _ a b => a = b
abbrev tT (K : PySem.W.Frag) (Wx : WX) (m : M Bool) : TT := tG K RB Wx m
theorem Post.mono {α ν : Type} {R : Wd → α → ν → Prop} {w : Wd} {σ : L2.St} {Wx : WX} {Q Q' : ν → Hp → Prop} {r : Res α} (h : Post K R w σ Wx Q r) (i : ∀ v H, Q v H → Q' v H) : Post K R w σ Wx Q' r := by
  cases r with
  | ok a st => exact fun w' v l r c => i _ _ (h w' v l r c)
  | exc k fs xs st => exact h
  | bad => exact h
theorem tG_mono {α ν : Type} {R : Wd → α → ν → Prop} {Wx : WX} {m : M α} {σ : L2.St} {H : Hp} {Q Q' : ν → Hp → Prop} (h : tG K R Wx m σ H Q) (i : ∀ v H, Q v H → Q' v H) : tG K R Wx m σ H Q' := by
  obtain ⟨mu, xi, env, st, re, c, h⟩ := h
  exact ⟨mu, xi, env, st, re, c, h.mono i⟩
/-- one part, then what hangs on its result -/
theorem tG_bind {α ν β κ : Type} {R : Wd → α → ν → Prop} {R' : Wd → β → κ → Prop} {w : Wd} {σ : L2.St} {Wx : WX} {Q : κ → Hp → Prop} {env : Env} {st : Sto} {ma : M α} {k : α → Sto → Res β}
    (re : REnv K w env σ) (c : Corr K w st) (h : Post K R' w σ Wx Q ((ma env st).bind k)) :
    tG K R Wx ma σ w.H fun v H1 => ∃ mu xi a st1, w.Le ⟨H1, mu, xi⟩ ∧ R ⟨H1, mu, xi⟩ a v ∧ Corr K ⟨H1, mu, xi⟩ st1 ∧ REnv K ⟨H1, mu, xi⟩ env σ ∧ Post K R' ⟨H1, mu, xi⟩ σ Wx Q (k a st1) := by
  refine ⟨w.mu, w.xi, env, st, re, c, ?_⟩
  cases e : ma env st with
  | ok a st1 =>
    rw [e] at h
    exact fun w' v l r c' => ⟨w'.mu, w'.xi, a, st1, l, r, c', re.le l, Post.le h l⟩
  | exc k fs xs st1 =>
    rw [e] at h
    exact h
  | bad =>
    rw [e] at h
    exact h
end
theorem PE.mono {X : Cx} {e : Expr} {t t' : TE} (h : PE X e t) (i : ∀ σ H Q, t' σ H Q → t σ H Q) : PE X e t' := ⟨fun pins s σ H Q I q => h.run pins s σ H Q I (i σ H Q q)⟩
theorem PT.mono {X : Cx} {e : Expr} {t t' : TT} (h : PT X e t) (i : ∀ σ H Q, t' σ H Q → t σ H Q) : PT X e t' := ⟨fun pins s σ H Q I q => h.run pins s σ H Q I (i σ H Q q)⟩
theorem PW.mono {X : Cx} {e : Expr} {t t' : TT} (h : PW X e t) (i : ∀ σ H Q, t' σ H Q → t σ H Q) : PW X e t' := ⟨fun wh pins s σ H Q I q => h.run wh pins s σ H Q I (i σ H Q q)⟩
theorem PA.mono {X : Cx} {e : List Expr} {t t' : TA} (h : PA X e t) (i : ∀ σ H Q, t' σ H Q → t σ H Q) : PA X e t' := ⟨fun p pins s σ H Q I q => h.run p pins s σ H Q I (i σ H Q q)⟩
theorem PS.mono {X : Cx} {e : Stmt} {t t' : TS} (h : PS X e t) (i : ∀ D σ H, t' D σ H → t D σ H) : PS X e t' := ⟨fun pins s σ H D I q => h.run pins s σ H D I (i D σ H q)⟩
theorem PSs.mono {X : Cx} {e : List Stmt} {t t' : TS} (h : PSs X e t) (i : ∀ D σ H, t' D σ H → t D σ H) : PSs X e t' := ⟨fun pins s σ H D I q => h.run pins s σ H D I (i D σ H q)⟩

/-! ### the judgements -/
abbrev CE (X : Cx) (Wx : WX) (e : Expr) (m : M D) : Prop := PE X e (tE X.K Wx m)
abbrev CA (X : Cx) (Wx : WX) (es : List Expr) (m : M (List D)) : Prop := PA X es (tA X.K Wx m)
abbrev CT (X : Cx) (Wx : WX) (e : Expr) (m : M Bool) : Prop := PT X e (tT X.K Wx m)
abbrev CW (X : Cx) (Wx : WX) (e : Expr) (m : M Bool) : Prop := PW X e (tT X.K Wx m)
section
variable {X : Cx} {Wx : WX} {a b c e o : Expr} {es : List Expr} {ma mb mc me : M D} {ms : M (List D)} {pos : Pos}

/-! ### names, constants -/
def eK (d : D) : M D := fun _ st => .ok d st
def eVar (i : Nat) : M D := fun env st => match env[i]? with
  | some (some d) => .ok d st
  | _ => .bad
theorem ce_var (i : Nat) {x : Str} (hN : X.N[i]? = some x := by rfl) (hv : Vis X.env.scope x := by first | exact Or.inl rfl | exact Or.inr (Or.inl rfl) | exact Or.inr (Or.inr rfl)) (hd : (x == ("__debug__" : Str)) = false := by decide)
    (hcd : (x == ("__classdict__" : Str)) = false := by decide) : CE X Wx (.Name x pos) (eVar i) := by
  refine PE.mono (pe_var hN hv hd hcd) fun σ H Q h => ?_
  obtain ⟨mu, xi, env, st, re, c, h⟩ := h
  unfold eVar at h
  split at h
  · rename_i d hd
    obtain ⟨v, e, r⟩ := re.2 i d hd
    exact ⟨v, e, h _ v (.refl _) r c⟩
  · exact h.elim
theorem ce_const {d : D} {v : V} (h : PE X e (tC v)) (r : ∀ w, Rel X.K w d v) : CE X Wx e (eK d) := PE.mono h fun σ H Q h => by
  obtain ⟨mu, xi, env, st, re, c, h⟩ := h
  exact h _ v (.refl _) (r _) c
theorem ce_int {i j} : CE X Wx (.Constant (.int i) j pos) (eK (.int i)) := ce_const pe_int fun w => by unfold Rel; rfl
theorem ce_bl {i j} : CE X Wx (.Constant (.bool i) j pos) (eK (.bl i)) := ce_const pe_bl fun w => by unfold Rel; rfl
theorem ce_non {j} : CE X Wx (.Constant .none j pos) (eK .non) := ce_const pe_non fun w => by unfold Rel; rfl
theorem ce_str {i j} : CE X Wx (.Constant (.str i) j pos) (eK (.str i)) := ce_const pe_str fun w => by unfold Rel; rfl
/-- a module's constant, an int or a text -/
theorem ce_gint {x : Str} {i : Int} (hm : ∃ t, X.mg x = some (.int i t)) (hg : Gl X x := by rfl) (hd : (x == ("__debug__" : Str)) = false := by decide) : CE X Wx (.Name x pos) (eK (.int i)) := by
  obtain ⟨t, hm⟩ := hm
  exact ce_const (pe_glob (v := .int i) hg hm ⟨t, rfl⟩ hd) fun w => by unfold Rel; rfl
theorem ce_gstr {x : Str} {i : Str} (hm : ∃ t, X.mg x = some (.str i t)) (hg : Gl X x := by rfl) (hd : (x == ("__debug__" : Str)) = false := by decide) : CE X Wx (.Name x pos) (eK (.str i)) := by
  obtain ⟨t, hm⟩ := hm
  exact ce_const (pe_glob (v := .str i) hg hm ⟨t, rfl⟩ hd) fun w => by unfold Rel; rfl
/-- a class or a def of the module, as a value -/
theorem ce_glo (x : String) (hm : X.mg (Str.ofString x) = some (.ref (gaS X.K x))) (hg : Gl X (Str.ofString x) := by rfl) (hd : ((Str.ofString x) == ("__debug__" : Str)) = false := by decide) : CE X Wx (.Name (Str.ofString x) pos) (eK (.glo x)) :=
  ce_const (pe_glob (v := .ref (gaS X.K x)) hg hm rfl hd) fun w => by unfold Rel; rfl
theorem ce_ty {x : Str} (n : String) (hm : X.mg x = none) (hv : bootBuiltins x = some (.type n)) (hg : Gl X x := by rfl) (hn : x ≠ "__name__" := by decide) (hd : (x == ("__debug__" : Str)) = false := by decide) : CE X Wx (.Name x pos) (eK (.ty n)) :=
  ce_const (pe_bltn (v := .ty n) hg hm hv rfl hn hd) fun w => by unfold Rel; rfl

/-! ### arguments -/
def aNil : M (List D) := fun _ st => .ok [] st
def aCons (m : M D) (ms : M (List D)) : M (List D) := fun env st => (m env st).bind fun d s1 => (ms env s1).bind fun ds s2 => .ok (d :: ds) s2
theorem ca_nil : CA X Wx [] aNil := PA.mono pa_nil fun σ H Q h => by
  obtain ⟨mu, xi, env, st, re, c, h⟩ := h
  exact h _ [] (.refl _) .nil c
theorem ca_cons (ha : CE X Wx e me) (hr : CA X Wx es ms) (hs : starEach (e :: es) X.env = (false, eval e X.env) :: starEach es X.env := by rfl) : CA X Wx (e :: es) (aCons me ms) := by
  refine PA.mono (pa_cons ha hr hs) fun σ H Q h => ?_
  obtain ⟨mu, xi, env, st, re, c, h⟩ := h
  exact tG_mono (tG_bind (R := Rel X.K) re c h) fun v H1 ⟨mu1, xi1, d, s1, l1, r1, c1, re1, p1⟩ =>
    tG_mono (tG_bind (R := Rels X.K) re1 c1 p1) fun vs H2 ⟨mu2, xi2, ds, s2, l2, r2, c2, re2, p2⟩ => p2 ⟨H2, mu2, xi2⟩ (v :: vs) (.refl _) (.cons (r1.le l2) r2) c2
end
end ND
end
noncomputable section
namespace ND
open PySem L2 PyProof.Rows
abbrev D2 : Type := D → D → Sto → Res D
section
variable {X : Cx} {Wx : WX}
/-- a two-place operation on values, by data -/
def OpD (X : Cx) (Wx : WX) (f : Value → Value → Sem Value) (g : D2) : Prop :=
  ∀ (pins : List (Addr × Obj)) (s : Shared) (σ : L2.St) (w : Wd) (st : Sto) (x y : D) (vx vy : V) (v u : Value) (Q : VK), Inv X pins σ w.H s → Corr X.K w st → Rel X.K w x vx → Rel X.K w y vy → RelV vx v → RelV vy u →
    Post X.K (Rel X.K) w σ Wx Q (g x y st) → wpAny (model X.prog X.w) X.A (f v u) (EP X pins σ Q) X.xe s
theorem OpD.ite {f : Value → Value → Sem Value} {g1 g2 : D2} (p : D → D → Sto → Bool) (h1 : OpD X Wx f g1) (h2 : OpD X Wx f g2) : OpD X Wx f (fun x y st => if p x y st = true then g1 x y st else g2 x y st) := by
  intro pins s σ w st x y vx vy v u Q I c rx ry rv ru h
  dsimp only at h
  by_cases q : p x y st = true
  · rw [if_pos q] at h
    exact h1 pins s σ w st x y vx vy v u Q I c rx ry rv ru h
  · rw [if_neg q] at h
    exact h2 pins s σ w st x y vx vy v u Q I c rx ry rv ru h
variable {a b c e o : Expr} {es : List Expr} {ma mb mc me : M D} {ms : M (List D)} {pos : Pos}
def e2 (g : D2) (ma mb : M D) : M D := fun env st => (ma env st).bind fun x s1 => (mb env s1).bind fun y s2 => g x y s2
/-- two parts, then an operation -/
theorem bin2 {g : D2} {f : Value → Value → Sem Value} (ho : OpD X Wx f g) (ha : CE X Wx a ma) (hb : CE X Wx b mb) {pins : List (Addr × Obj)} {s : Shared} {σ : L2.St} {H : Hp} {Q : VK} (I : Inv X pins σ H s) (h : tE X.K Wx (e2 g ma mb) σ H Q) :
    wpAny (model X.prog X.w) X.A (eval a X.env) (fun v s₁ => wpAny (model X.prog X.w) X.A (eval b X.env) (fun u s₂ => wpAny (model X.prog X.w) X.A (f v u) (EP X pins σ Q) X.xe s₂) X.xe s₁) X.xe s := by
  obtain ⟨mu, xi, env, st, re, c, h⟩ := h
  refine thn (ha.run pins s σ H _ I (tG_bind (R := Rel X.K) re c h)) fun v s1 ⟨x, H1, I1, rv, mu1, xi1, d, st1, l1, r1, c1, re1, p1⟩ => ?_
  refine thn (hb.run pins s1 σ H1 _ I1 (tG_bind (R := Rel X.K) re1 c1 p1)) fun u s2 ⟨y, H2, I2, ru, mu2, xi2, d2, st2, l2, r2, c2, re2, p2⟩ => ?_
  exact ho pins s2 σ ⟨H2, mu2, xi2⟩ st2 d d2 x y v u Q I2 c2 (r1.le l2) r2 rv ru p2
theorem ce_bin {op : Operator} {g : D2} (ho : OpD X Wx (binaryOp op) g) (ha : CE X Wx a ma) (hb : CE X Wx b mb) : CE X Wx (.BinOp a op b pos) (e2 g ma mb) :=
  ⟨fun pins s σ H Q I h => wpAny_BinOp (bin2 ho ha hb I h)⟩
theorem ce_cmp {op : CmpOp} {g : D2} (ho : OpD X Wx (compareOp op) g) (ha : CE X Wx a ma) (hb : CE X Wx b mb) (hm : behindInMarks op b = false := by first | exact nomark _ | rfl) : CE X Wx (.Compare a [op] [b] pos) (e2 g ma mb) :=
  ⟨fun pins s σ H Q I h => wpAny_Compare1 (bin2 ho ha hb I h) hm⟩
/-- a result that is a bool, as a test -/
def toB (m : M D) : M Bool := fun env st => (m env st).bind fun d s1 => match d with
  | .bl b => .ok b s1
  | _ => .bad
theorem toB_of {m : M D} {σ : L2.St} {H : Hp} {Q : Bool → Hp → Prop} (h : tT X.K Wx (toB m) σ H Q) : tE X.K Wx m σ H fun x H1 => ∃ k, x = .bl k ∧ Q k H1 := by
  obtain ⟨mu, xi, env, st, re, c, h⟩ := h
  refine tG_mono (tG_bind (R := Rel X.K) re c h) fun v H1 ⟨mu1, xi1, d, st1, l1, r1, c1, re1, p1⟩ => ?_
  cases d with
  | bl b =>
    have r2 : v = .bl b := by
      unfold Rel at r1
      exact r1
    exact ⟨b, r2, p1 ⟨H1, mu1, xi1⟩ b (.refl _) rfl c1⟩
  | _ => exact p1.elim
theorem ct_cmp {op : CmpOp} {g : D2} (ho : OpD X Wx (compareOp op) g) (ha : CE X Wx a ma) (hb : CE X Wx b mb) (hm : behindInMarks op b = false := by first | exact nomark _ | rfl) : CT X Wx (.Compare a [op] [b] pos) (toB (e2 g ma mb)) := by
  refine ⟨fun pins s σ H Q I h => wpAny_isTrue_Compare1 ?_ hm⟩
  have q := bin2 ho ha hb I (toB_of h)
  refine thn q fun v s1 q1 => thn q1 fun u s2 q2 => thn q2 fun cc s3 ⟨z, H3, I3, r3, k, e, q3⟩ => ?_
  subst e
  cases r3
  exact wpAny_truthy_bool ⟨H3, I3, q3⟩

/-! ### truth -/
def seqL (st : Sto) : D → Option (List D)
  | .lst xs => some xs
  | .ext ns => some (ns.map .int)
  | .ref n => match st[n]? with
    | some (.lst xs) => some xs
    | _ => none
  | _ => none
def seqT : D → Option (List D)
  | .tup xs => some xs
  | _ => none
theorem fr_here {w : Wd} {a : Addr} {o : HO} (h : w.fr a = some o) : w.H a = some o := (Wd.fr_some.mp h).2.2
theorem seqL_ok {K : PySem.W.Frag} {w : Wd} {st : Sto} {d : D} {v : V} {xs : List D} (c : Corr K w st) (r : Rel K w d v) (h : seqL st d = some xs) : ∃ a vs, v = .ref a ∧ SqL K w.H a vs ∧ Rels K w xs vs := by
  cases d with
  | lst ys =>
    have e : ys = xs := Option.some.inj h
    subst e
    unfold Rel at r
    obtain ⟨a, vs, e, q, s⟩ := r
    exact ⟨a, vs, e, .inl (.inl (fr_here q)), s⟩
  | ext ns =>
    have e : ns.map D.int = xs := Option.some.inj h
    subst e
    unfold Rel at r
    obtain ⟨a, e, q⟩ := r
    exact ⟨a, _, e, ex_l (fun _ _ => fr_here) q, Rels.ofInts ns⟩
  | ref n =>
    unfold Rel at r
    obtain ⟨a, e, q⟩ := r
    have h2 : (match st[n]? with
      | some (.lst xs) => some xs
      | _ => none) = some xs := h
    split at h2
    · rename_i ys hy
      have e2 : ys = xs := Option.some.inj h2
      subst e2
      obtain ⟨u, hu, vs, rfl, s⟩ := c.obj n a _ q hy
      exact ⟨a, vs, e, .inl (.inl hu), s⟩
    · cases h2
  | _ => cases h
theorem seqT_ok {K : PySem.W.Frag} {w : Wd} {d : D} {v : V} {xs : List D} (r : Rel K w d v) (h : seqT d = some xs) : ∃ a vs, v = .ref a ∧ SqT K w.H a vs ∧ Rels K w xs vs := by
  cases d with
  | tup ys =>
    have e : ys = xs := Option.some.inj h
    subst e
    unfold Rel at r
    obtain ⟨a, vs, e, q, s⟩ := r
    exact ⟨a, vs, e, .inl (.inl (fr_here q)), s⟩
  | _ => cases h
def keysD (st : Sto) : D → Option (List Key)
  | .dK ks _ => some ks
  | .ref n => match st[n]? with
    | some (.dK ks _) => some ks
    | _ => none
  | _ => none
def truD (st : Sto) (d : D) : Option Bool := match d with
  | .non => some false
  | .bl b => some b
  | .int i => some (i != 0)
  | .str y => if Ok (y.length ≤ sizeLine) then some ((y.length : Int) != 0) else none
  | _ => match seqL st d with
    | some xs => some (!xs.isEmpty)
    | none => match seqT d with
      | some xs => some (!xs.isEmpty)
      | none => none
theorem Rels.empty {K : PySem.W.Frag} {w : Wd} {xs : List D} {vs : List V} (r : Rels K w xs vs) : xs.isEmpty = vs.isEmpty := by
  have h := r.length
  cases xs <;> cases vs <;> simp_all
theorem truD_ok {K : PySem.W.Frag} {w : Wd} {st : Sto} {d : D} {v : V} {b : Bool} (c : Corr K w st) (r : Rel K w d v) (h : truD st d = some b) : TruV K v w.H b := by
  have fin : (match seqL st d with
    | some xs => some (!xs.isEmpty)
    | none => match seqT d with
      | some xs => some (!xs.isEmpty)
      | none => none) = some b → TruV K v w.H b := by
    intro h
    split at h
    · rename_i xs hx
      obtain ⟨a, vs, rfl, q, s⟩ := seqL_ok c r hx
      exact .inl ⟨vs, q, by rw [← s.empty]; exact (Option.some.inj h).symm⟩
    · split at h
      · rename_i xs hx
        obtain ⟨a, vs, rfl, q, s⟩ := seqT_ok r hx
        exact .inr (.inl ⟨vs, q, by rw [← s.empty]; exact (Option.some.inj h).symm⟩)
      · cases h
  cases d with
  | non =>
    unfold Rel at r
    subst r
    exact (Option.some.inj h).symm
  | bl k =>
    unfold Rel at r
    subst r
    exact (Option.some.inj h).symm
  | int i =>
    unfold Rel at r
    subst r
    exact (Option.some.inj h).symm
  | str y =>
    unfold Rel at r
    subst r
    have h2 : (if Ok (y.length ≤ sizeLine) then some ((y.length : Int) != 0) else none) = some b := h
    split at h2
    · rename_i hy
      exact ⟨hy, (Option.some.inj h2).symm⟩
    · cases h2
  | lst xs => exact fin h
  | tup xs => exact fin h
  | ref n => exact fin h
  | ins k fs xs => exact fin h
  | dK ks xs => exact fin h
  | dT ks xs => exact fin h
  | glo x => exact fin h
  | ext x => exact fin h
  | ty x => exact fin h
  | exc k fs xs => exact fin h
def tru (m : M D) : M Bool := fun env st => (m env st).bind fun d s1 => match truD s1 d with
  | some b => .ok b s1
  | none => .bad
theorem tru_of {m : M D} {σ : L2.St} {H : Hp} {Q : Bool → Hp → Prop} (h : tT X.K Wx (tru m) σ H Q) : tE X.K Wx m σ H fun x H1 => ∃ k, TruV X.K x H1 k ∧ Q k H1 := by
  obtain ⟨mu, xi, env, st, re, c, h⟩ := h
  refine tG_mono (tG_bind (R := Rel X.K) re c h) fun v H1 ⟨mu1, xi1, d, st1, l1, r1, c1, re1, p1⟩ => ?_
  cases e : truD st1 d with
  | some b =>
    rw [e] at p1
    exact ⟨b, truD_ok c1 r1 e, p1 ⟨H1, mu1, xi1⟩ b (.refl _) rfl c1⟩
  | none =>
    rw [e] at p1
    exact p1.elim
theorem ct_truth {m : M D} (ha : CE X Wx a m) (he : ∀ whole, isTrue a X.env whole = (do let v ← whole; standAt a.pos; holding [v] (truthy v)) := by intro _; rfl) : CT X Wx a (tru m) :=
  PT.mono (pt_truth ha he) fun σ H Q h => tru_of h

/-! ### and, or, not, if else -/
variable {ta tb : M Bool} {rest : List Expr}
def bAnd (ta tb : M Bool) : M Bool := fun env st => (ta env st).bind fun b s1 => if b = true then tb env s1 else .ok false s1
def bOr (ta tb : M Bool) : M Bool := fun env st => (ta env st).bind fun b s1 => if b = true then .ok true s1 else tb env s1
def bNot (ta : M Bool) : M Bool := fun env st => (ta env st).bind fun b s1 => .ok (!b) s1
theorem cw_and1 (ha : CT X Wx a ta) : CW X Wx (.BoolOp .And [a] pos) ta := pw_and1 ha
theorem cw_or1 (ha : CT X Wx a ta) : CW X Wx (.BoolOp .Or [a] pos) ta := pw_or1 ha
theorem cw_and (ha : CT X Wx a ta) (hb : CW X Wx (.BoolOp .And (b :: rest) pos) tb) : CW X Wx (.BoolOp .And (a :: b :: rest) pos) (bAnd ta tb) := PW.mono (pw_and ha hb) fun σ H Q h => by
  obtain ⟨mu, xi, env, st, re, c, h⟩ := h
  refine tG_mono (tG_bind (R := RB) re c h) fun v H1 ⟨mu1, xi1, d, st1, l1, r1, c1, re1, p1⟩ => ?_
  cases r1
  cases v with
  | true => exact ⟨mu1, xi1, env, st1, re1, c1, p1⟩
  | false => exact p1 ⟨H1, mu1, xi1⟩ _ (.refl _) rfl c1
theorem cw_or (ha : CT X Wx a ta) (hb : CW X Wx (.BoolOp .Or (b :: rest) pos) tb) : CW X Wx (.BoolOp .Or (a :: b :: rest) pos) (bOr ta tb) := PW.mono (pw_or ha hb) fun σ H Q h => by
  obtain ⟨mu, xi, env, st, re, c, h⟩ := h
  refine tG_mono (tG_bind (R := RB) re c h) fun v H1 ⟨mu1, xi1, d, st1, l1, r1, c1, re1, p1⟩ => ?_
  cases r1
  cases v with
  | false => exact ⟨mu1, xi1, env, st1, re1, c1, p1⟩
  | true => exact p1 ⟨H1, mu1, xi1⟩ _ (.refl _) rfl c1
theorem ct_w {t : M Bool} (h : CW X Wx a t) : CT X Wx a t := PW.pt h
theorem ct_not (ha : CT X Wx a ta) : CT X Wx (.UnaryOp .Not a pos) (bNot ta) := PT.mono (pt_not ha) fun σ H Q h => by
  obtain ⟨mu, xi, env, st, re, c, h⟩ := h
  refine tG_mono (tG_bind (R := RB) re c h) fun v H1 ⟨mu1, xi1, d, st1, l1, r1, c1, re1, p1⟩ => ?_
  cases r1
  exact p1 ⟨H1, mu1, xi1⟩ _ (.refl _) rfl c1
def eIf (t : M Bool) (ma mb : M D) : M D := fun env st => (t env st).bind fun b s1 => if b = true then ma env s1 else mb env s1
theorem ce_if (hc : CT X Wx c ta) (ha : CE X Wx a ma) (hb : CE X Wx b mb) : CE X Wx (.IfExp c a b pos) (eIf ta ma mb) := PE.mono (pe_ifExp hc ha hb) fun σ H Q h => by
  obtain ⟨mu, xi, env, st, re, c, h⟩ := h
  refine tG_mono (tG_bind (R := RB) re c h) fun v H1 ⟨mu1, xi1, d, st1, l1, r1, c1, re1, p1⟩ => ?_
  cases r1
  cases v with
  | true => exact ⟨mu1, xi1, env, st1, re1, c1, p1⟩
  | false => exact ⟨mu1, xi1, env, st1, re1, c1, p1⟩
def eAnd (ma mb : M D) : M D := fun env st => (ma env st).bind fun x s1 => match truD s1 x with
  | some true => mb env s1
  | some false => .ok x s1
  | none => .bad
def eOr (ma mb : M D) : M D := fun env st => (ma env st).bind fun x s1 => match truD s1 x with
  | some true => .ok x s1
  | some false => mb env s1
  | none => .bad
def eNot (ma : M D) : M D := fun env st => (ma env st).bind fun x s1 => match truD s1 x with
  | some b => .ok (.bl (!b)) s1
  | none => .bad
theorem ce_one {op} (h : CE X Wx a ma) : CE X Wx (.BoolOp op [a] pos) ma := pe_one h
theorem ce_and (ha : CE X Wx a ma) (hb : CE X Wx (.BoolOp .And (b :: rest) pos) mb) : CE X Wx (.BoolOp .And (a :: b :: rest) pos) (eAnd ma mb) := PE.mono (pe_andT ha hb) fun σ H Q h => by
  obtain ⟨mu, xi, env, st, re, c, h⟩ := h
  refine tG_mono (tG_bind (R := Rel X.K) re c h) fun v H1 ⟨mu1, xi1, d, st1, l1, r1, c1, re1, p1⟩ => ?_
  cases e : truD st1 d with
  | none =>
    rw [e] at p1
    exact p1.elim
  | some k =>
    rw [e] at p1
    refine ⟨k, truD_ok c1 r1 e, ?_⟩
    cases k with
    | true => exact ⟨mu1, xi1, env, st1, re1, c1, p1⟩
    | false => exact p1 ⟨H1, mu1, xi1⟩ _ (.refl _) r1 c1
theorem ce_or (ha : CE X Wx a ma) (hb : CE X Wx (.BoolOp .Or (b :: rest) pos) mb) : CE X Wx (.BoolOp .Or (a :: b :: rest) pos) (eOr ma mb) := PE.mono (pe_orT ha hb) fun σ H Q h => by
  obtain ⟨mu, xi, env, st, re, c, h⟩ := h
  refine tG_mono (tG_bind (R := Rel X.K) re c h) fun v H1 ⟨mu1, xi1, d, st1, l1, r1, c1, re1, p1⟩ => ?_
  cases e : truD st1 d with
  | none =>
    rw [e] at p1
    exact p1.elim
  | some k =>
    rw [e] at p1
    refine ⟨k, truD_ok c1 r1 e, ?_⟩
    cases k with
    | false => exact ⟨mu1, xi1, env, st1, re1, c1, p1⟩
    | true => exact p1 ⟨H1, mu1, xi1⟩ _ (.refl _) r1 c1
theorem ce_not (ha : CE X Wx a ma) : CE X Wx (.UnaryOp .Not a pos) (eNot ma) := PE.mono (pe_notT ha) fun σ H Q h => by
  obtain ⟨mu, xi, env, st, re, c, h⟩ := h
  refine tG_mono (tG_bind (R := Rel X.K) re c h) fun v H1 ⟨mu1, xi1, d, st1, l1, r1, c1, re1, p1⟩ => ?_
  cases e : truD st1 d with
  | none =>
    rw [e] at p1
    exact p1.elim
  | some k =>
    rw [e] at p1
    exact ⟨k, truD_ok c1 r1 e, p1 ⟨H1, mu1, xi1⟩ _ (.refl _) (by unfold Rel; rfl) c1⟩

/-! ### int operators -/
theorem opd_of {f : Value → Value → Sem Value} {g : D2} {r : R2} (ho : OpR X f r) (sd : ∀ (w : Wd) (σ : L2.St) (st : Sto) (x y : D) (vx vy : V) (Q : VK), Corr X.K w st → Rel X.K w x vx → Rel X.K w y vy → Post X.K (Rel X.K) w σ Wx Q (g x y st) → r vx vy w.H Q) : OpD X Wx f g := by
  intro pins s σ w st x y vx vy v u Q I c rx ry rv ru h
  exact ho pins s σ w.H vx vy v u Q I rv ru (sd w σ st x y vx vy Q c rx ry h)
def i2 (C : Int → Int → Bool) (g : Int → Int → D) : D2
  | .int i, .int j, st => if C i j = true then .ok (g i j) st else .bad
  | _, _, _ => .bad
theorem opd_int {f : Value → Value → Sem Value} {C : Int → Int → Bool} {CP : Int → Int → Prop} {g : Int → Int → D} {g' : Int → Int → V} (ho : OpR X f (rI CP g')) (hc : ∀ i j, C i j = true → CP i j) (hg : ∀ w i j, Rel X.K w (g i j) (g' i j)) : OpD X Wx f (i2 C g) :=
  opd_of ho fun w σ st x y vx vy Q c rx ry h => by
    cases x with
    | int i =>
      cases y with
      | int j =>
        unfold Rel at rx ry
        have h2 : Post X.K (Rel X.K) w σ Wx Q (if C i j = true then .ok (g i j) st else .bad) := h
        by_cases q : C i j = true
        · rw [if_pos q] at h2
          exact ⟨i, j, rx, ry, hc i j q, h2 w _ (.refl _) (hg w i j) c⟩
        · rw [if_neg q] at h2
          exact h2.elim
      | _ => exact h.elim
    | _ => exact h.elim
theorem opd_int0 {f : Value → Value → Sem Value} {g : Int → Int → D} {g' : Int → Int → V} (ho : OpR X f (rI0 g')) (hg : ∀ w i j, Rel X.K w (g i j) (g' i j)) : OpD X Wx f (i2 (fun _ _ => true) g) :=
  opd_of ho fun w σ st x y vx vy Q c rx ry h => by
    cases x with
    | int i =>
      cases y with
      | int j =>
        unfold Rel at rx ry
        have h2 : Post X.K (Rel X.K) w σ Wx Q (if true = true then .ok (g i j) st else .bad) := h
        rw [if_pos rfl] at h2
        exact ⟨i, j, rx, ry, h2 w _ (.refl _) (hg w i j) c⟩
      | _ => exact h.elim
    | _ => exact h.elim
theorem rel_int {K : PySem.W.Frag} (w : Wd) (i : Int) : Rel K w (.int i) (.int i) := by unfold Rel; rfl
theorem rel_bl {K : PySem.W.Frag} (w : Wd) (i : Bool) : Rel K w (.bl i) (.bl i) := by unfold Rel; rfl
theorem rel_str {K : PySem.W.Frag} (w : Wd) (i : Str) : Rel K w (.str i) (.str i) := by unfold Rel; rfl
def addI : D2 := i2 (fun _ _ => true) fun i j => .int (i + j)
def subI : D2 := i2 (fun _ _ => true) fun i j => .int (i - j)
noncomputable def mulC (i j : Int) : Bool := decide (Ok (i.natAbs.log2 + j.natAbs.log2 < 1000000))
def mulI : D2 := i2 mulC fun i j => .int (i * j)
noncomputable def divC (i j : Int) : Bool := decide (Ok (0 < j)) && decide (Ok (j.natAbs.log2 < 9000))
def divI : D2 := i2 divC fun i j => .int (i / j)
def modI : D2 := i2 (fun _ j => decide (Ok (0 < j))) fun i j => .int (i % j)
noncomputable def powC (i j : Int) : Bool := decide (Ok (0 ≤ j)) && decide (Ok (j ≤ 1000000)) && decide (Ok (i.natAbs < 2 ^ 64))
def powI : D2 := i2 powC fun i j => .int (i ^ j.toNat)
theorem o_addI : OpD X Wx (binaryOp .Add) addI := opd_int0 op_add fun w i j => rel_int w _
theorem o_subI : OpD X Wx (binaryOp .Sub) subI := opd_int0 op_sub fun w i j => rel_int w _
theorem o_mulI : OpD X Wx (binaryOp .Mult) mulI := opd_int op_mulW (fun i j h => ok_of (p := i.natAbs.log2 + j.natAbs.log2 < 1000000) h) fun w i j => rel_int w _
theorem o_divI : OpD X Wx (binaryOp .FloorDiv) divI := opd_int op_fdivW (fun i j h => by
  unfold divC at h
  rw [Bool.and_eq_true] at h
  exact ⟨ok_of h.1, ok_of h.2⟩) fun w i j => rel_int w _
theorem o_modI : OpD X Wx (binaryOp .Mod) modI := opd_int op_mod (fun i j h => ok_of h) fun w i j => rel_int w _
theorem o_powI : OpD X Wx (binaryOp .Pow) powI := opd_int op_pow (fun i j h => by
  unfold powC at h
  rw [Bool.and_eq_true, Bool.and_eq_true] at h
  exact ⟨ok_of h.1.1, ok_of h.1.2, ok_of h.2⟩) fun w i j => rel_int w _
def ltI : D2 := i2 (fun _ _ => true) fun i j => .bl (decide (i < j))
def leI : D2 := i2 (fun _ _ => true) fun i j => .bl (decide (i ≤ j))
def gtI : D2 := i2 (fun _ _ => true) fun i j => .bl (decide (j < i))
def geI : D2 := i2 (fun _ _ => true) fun i j => .bl (decide (j ≤ i))
theorem o_ltI : OpD X Wx (compareOp .Lt) ltI := opd_int0 op_lt fun w i j => rel_bl w _
theorem o_leI : OpD X Wx (compareOp .LtE) leI := opd_int0 op_le fun w i j => rel_bl w _
theorem o_gtI : OpD X Wx (compareOp .Gt) gtI := opd_int0 op_gt fun w i j => rel_bl w _
theorem o_geI : OpD X Wx (compareOp .GtE) geI := opd_int0 op_ge fun w i j => rel_bl w _
/-- x is None -/
def isN (neg : Bool) : D2
  | x, .non, st => match x with
    | .non => .ok (.bl (!neg)) st
    | .exc _ _ _ => .bad
    | _ => .ok (.bl neg) st
  | _, _, _ => .bad
theorem rel_non {K : PySem.W.Frag} {w : Wd} {d : D} {v : V} (r : Rel K w d v) (h : d ≠ .non) (h2 : ∀ k fs xs, d ≠ .exc k fs xs) : decide (v = .non) = false := by
  refine decide_eq_false fun e => ?_
  subst e
  cases d with
  | non => exact h rfl
  | exc k fs xs => exact h2 k fs xs rfl
  | _ =>
    unfold Rel at r
    first
      | (obtain ⟨_, _, _, e, _⟩ := r; cases e; done)
      | (obtain ⟨_, _, e, _⟩ := r; cases e; done)
      | (obtain ⟨_, e, _⟩ := r; cases e; done)
      | (cases r; done)
theorem o_is : OpD X Wx (compareOp .Is) (isN false) := opd_of op_isN fun w σ st x y vx vy Q c rx ry h => by
  cases y with
  | non =>
    unfold Rel at ry
    refine ⟨ry, ?_⟩
    cases x with
    | non =>
      unfold Rel at rx
      subst rx
      exact h w (.bl true) (.refl _) (rel_bl w _) c
    | exc k fs xs => exact h.elim
    | _ =>
      rw [rel_non rx (fun e => by cases e) (fun _ _ _ e => by cases e)]
      exact h w (.bl false) (.refl _) (rel_bl w _) c
  | _ => exact (show False from h).elim
theorem o_isnot : OpD X Wx (compareOp .IsNot) (isN true) := opd_of op_notN fun w σ st x y vx vy Q c rx ry h => by
  cases y with
  | non =>
    unfold Rel at ry
    refine ⟨ry, ?_⟩
    cases x with
    | non =>
      unfold Rel at rx
      subst rx
      exact h w (.bl false) (.refl _) (rel_bl w _) c
    | exc k fs xs => exact h.elim
    | _ =>
      rw [rel_non rx (fun e => by cases e) (fun _ _ _ e => by cases e)]
      exact h w (.bl true) (.refl _) (rel_bl w _) c
  | _ => exact (show False from h).elim
def negI (m : M D) : M D := fun env st => (m env st).bind fun d s1 => match d with
  | .int i => .ok (.int (-i)) s1
  | _ => .bad
theorem ce_neg (ha : CE X Wx a ma) : CE X Wx (.UnaryOp .USub a pos) (negI ma) := PE.mono (pe_un un_neg ha) fun σ H Q h => by
  obtain ⟨mu, xi, env, st, re, c, h⟩ := h
  refine tG_mono (tG_bind (R := Rel X.K) re c h) fun v H1 ⟨mu1, xi1, d, st1, l1, r1, c1, re1, p1⟩ => ?_
  cases d with
  | int i =>
    unfold Rel at r1
    exact ⟨i, r1, p1 ⟨H1, mu1, xi1⟩ _ (.refl _) (rel_int _ _) c1⟩
  | _ => exact p1.elim
end
end ND
end
noncomputable section
namespace ND
open PySem L2 PyProof.Rows
/-! ### as plain data -/
mutual
def pyF : D → Option PyData
  | .non => some .none
  | .bl b => some (.bool b)
  | .int i => some (.int i)
  | .str s => some (.str s)
  | .tup xs => (pyFs xs).map .tuple
  | .lst xs => (pyFs xs).map .list
  | .ref _ => none
  | .ins _ _ _ => none
  | .dK _ _ => none
  | .dT _ _ => none
  | .glo _ => none
  | .ty _ => none
  | .ext ns => some (.list (ns.map .int))
  | .exc _ _ _ => none
def pyFs : List D → Option (List PyData)
  | [] => some []
  | x :: xs => match pyF x, pyFs xs with
    | some d, some ds => some (d :: ds)
    | _, _ => none
end
mutual
def pyD (st : Sto) : D → Option PyData
  | .non => some .none
  | .bl b => some (.bool b)
  | .int i => some (.int i)
  | .str s => some (.str s)
  | .tup xs => (pyDs st xs).map .tuple
  | .lst xs => (pyDs st xs).map .list
  | .ref n => match st[n]? with
    | some (.lst xs) => (pyFs xs).map .list
    | _ => none
  | .ins _ _ _ => none
  | .dK _ _ => none
  | .dT _ _ => none
  | .glo _ => none
  | .ty _ => none
  | .ext ns => some (.list (ns.map .int))
  | .exc _ _ _ => none
def pyDs (st : Sto) : List D → Option (List PyData)
  | [] => some []
  | x :: xs => match pyD st x, pyDs st xs with
    | some d, some ds => some (d :: ds)
    | _, _ => none
end
section
variable {K : PySem.W.Frag}
theorem dp_ints {H : Hp} : ∀ ns : List Int, DpAll K H (ns.map V.int) (ns.map PyData.int)
  | [] => .nil
  | n :: r => .cons (.int n) (dp_ints r)
theorem plain_ints : ∀ ns : List Int, PyData.plainAll (ns.map PyData.int) = true
  | [] => rfl
  | n :: r => by
    show (PyData.plain (.int n) && PyData.plainAll (r.map PyData.int)) = true
    rw [plain_ints r]
    rfl
mutual
theorem pyF_ok {w : Wd} : ∀ (d : D) (v : V) (p : PyData), Rel K w d v → pyF d = some p → Dp K w.H v p ∧ p.plain = true
  | .non, v, p, r, h => by
    unfold Rel at r
    subst r
    cases h
    exact ⟨.non, rfl⟩
  | .bl b, v, p, r, h => by
    unfold Rel at r
    subst r
    cases h
    exact ⟨.bl b, rfl⟩
  | .int b, v, p, r, h => by
    unfold Rel at r
    subst r
    cases h
    exact ⟨.int b, rfl⟩
  | .str b, v, p, r, h => by
    unfold Rel at r
    subst r
    cases h
    exact ⟨.str b, rfl⟩
  | .tup xs, v, p, r, h => by
    unfold Rel at r
    obtain ⟨a, vs, e, q, s⟩ := r
    subst e
    have h2 : (pyFs xs).map PyData.tuple = some p := h
    cases e2 : pyFs xs with
    | none =>
      rw [e2] at h2
      cases h2
    | some ds =>
      rw [e2] at h2
      cases h2
      obtain ⟨z1, z2⟩ := pyFs_ok xs vs ds s e2
      exact ⟨.tup (.inl (.inl (fr_here q))) z1, z2⟩
  | .lst xs, v, p, r, h => by
    unfold Rel at r
    obtain ⟨a, vs, e, q, s⟩ := r
    subst e
    have h2 : (pyFs xs).map PyData.list = some p := h
    cases e2 : pyFs xs with
    | none =>
      rw [e2] at h2
      cases h2
    | some ds =>
      rw [e2] at h2
      cases h2
      obtain ⟨z1, z2⟩ := pyFs_ok xs vs ds s e2
      exact ⟨.lst (.inl (.inl (fr_here q))) z1, z2⟩
  | .ref _, _, _, _, h => by cases h
  | .ins _ _ _, _, _, _, h => by cases h
  | .dK _ _, _, _, _, h => by cases h
  | .dT _ _, _, _, _, h => by cases h
  | .glo _, _, _, _, h => by cases h
  | .ty _, _, _, _, h => by cases h
  | .ext ns, v, p, r, h => by
    unfold Rel at r
    obtain ⟨a, e, q⟩ := r
    subst e
    cases h
    exact ⟨.lst (ex_l (fun _ _ => fr_here) q) (dp_ints ns), plain_ints ns⟩
  | .exc _ _ _, _, _, _, h => by cases h
theorem pyFs_ok {w : Wd} : ∀ (ds : List D) (vs : List V) (ps : List PyData), Rels K w ds vs → pyFs ds = some ps → DpAll K w.H vs ps ∧ PyData.plainAll ps = true
  | [], vs, ps, r, h => by
    unfold Rels at r
    subst r
    cases h
    exact ⟨.nil, rfl⟩
  | x :: xs, vs, ps, r, h => by
    obtain ⟨v, rr, e, q, s⟩ := r.inv
    subst e
    have h2 : (match pyF x, pyFs xs with
      | some d, some ds => some (d :: ds)
      | _, _ => none) = some ps := h
    split at h2
    · rename_i d ds e1 e2
      cases h2
      obtain ⟨z1, z2⟩ := pyF_ok x v d q e1
      obtain ⟨z3, z4⟩ := pyFs_ok xs rr ds s e2
      exact ⟨.cons z1 z3, by rw [PyData.plainAll, z2, z4]; rfl⟩
    · cases h2
end
mutual
theorem pyD_ok {w : Wd} {st : Sto} (c : Corr K w st) : ∀ (d : D) (v : V) (p : PyData), Rel K w d v → pyD st d = some p → Dp K w.H v p ∧ p.plain = true
  | .non, v, p, r, h => by
    unfold Rel at r
    subst r
    cases h
    exact ⟨.non, rfl⟩
  | .bl b, v, p, r, h => by
    unfold Rel at r
    subst r
    cases h
    exact ⟨.bl b, rfl⟩
  | .int b, v, p, r, h => by
    unfold Rel at r
    subst r
    cases h
    exact ⟨.int b, rfl⟩
  | .str b, v, p, r, h => by
    unfold Rel at r
    subst r
    cases h
    exact ⟨.str b, rfl⟩
  | .tup xs, v, p, r, h => by
    unfold Rel at r
    obtain ⟨a, vs, e, q, s⟩ := r
    subst e
    have h2 : (pyDs st xs).map PyData.tuple = some p := h
    cases e2 : pyDs st xs with
    | none =>
      rw [e2] at h2
      cases h2
    | some ds =>
      rw [e2] at h2
      cases h2
      obtain ⟨z1, z2⟩ := pyDs_ok c xs vs ds s e2
      exact ⟨.tup (.inl (.inl (fr_here q))) z1, z2⟩
  | .lst xs, v, p, r, h => by
    unfold Rel at r
    obtain ⟨a, vs, e, q, s⟩ := r
    subst e
    have h2 : (pyDs st xs).map PyData.list = some p := h
    cases e2 : pyDs st xs with
    | none =>
      rw [e2] at h2
      cases h2
    | some ds =>
      rw [e2] at h2
      cases h2
      obtain ⟨z1, z2⟩ := pyDs_ok c xs vs ds s e2
      exact ⟨.lst (.inl (.inl (fr_here q))) z1, z2⟩
  | .ref n, v, p, r, h => by
    unfold Rel at r
    obtain ⟨a, e, q⟩ := r
    subst e
    have h2 : (match st[n]? with
      | some (.lst xs) => (pyFs xs).map PyData.list
      | _ => none) = some p := h
    split at h2
    · rename_i xs hx
      obtain ⟨u, hu, vs, e3, s⟩ := c.obj n a _ q hx
      subst e3
      cases e2 : pyFs xs with
      | none =>
        rw [e2] at h2
        cases h2
      | some ds =>
        rw [e2] at h2
        cases h2
        obtain ⟨z1, z2⟩ := pyFs_ok xs vs ds s e2
        exact ⟨.lst (.inl (.inl hu)) z1, z2⟩
    · cases h2
  | .ins _ _ _, _, _, _, h => by cases h
  | .dK _ _, _, _, _, h => by cases h
  | .dT _ _, _, _, _, h => by cases h
  | .glo _, _, _, _, h => by cases h
  | .ty _, _, _, _, h => by cases h
  | .ext ns, v, p, r, h => by
    unfold Rel at r
    obtain ⟨a, e, q⟩ := r
    subst e
    cases h
    exact ⟨.lst (ex_l (fun _ _ => fr_here) q) (dp_ints ns), plain_ints ns⟩
  | .exc _ _ _, _, _, _, h => by cases h
theorem pyDs_ok {w : Wd} {st : Sto} (c : Corr K w st) : ∀ (ds : List D) (vs : List V) (ps : List PyData), Rels K w ds vs → pyDs st ds = some ps → DpAll K w.H vs ps ∧ PyData.plainAll ps = true
  | [], vs, ps, r, h => by
    unfold Rels at r
    subst r
    cases h
    exact ⟨.nil, rfl⟩
  | x :: xs, vs, ps, r, h => by
    obtain ⟨v, rr, e, q, s⟩ := r.inv
    subst e
    have h2 : (match pyD st x, pyDs st xs with
      | some d, some ds => some (d :: ds)
      | _, _ => none) = some ps := h
    split at h2
    · rename_i d ds e1 e2
      cases h2
      obtain ⟨z1, z2⟩ := pyD_ok c x v d q e1
      obtain ⟨z3, z4⟩ := pyDs_ok c xs rr ds s e2
      exact ⟨.cons z1 z3, by rw [PyData.plainAll, z2, z4]; rfl⟩
    · cases h2
end
end
section
variable {X : Cx} {Wx : WX} {a b c e o : Expr} {es : List Expr} {ma mb mc me : M D} {ms : M (List D)} {pos p2 : Pos}
/-- == (neg: !=) of plain data -/
def eqD (neg : Bool) : D2 := fun x y st => match pyD st x, pyD st y with
  | some p, some q => if Ok (min p.depth q.depth ≤ 60) then .ok (.bl (if neg = true then !PyData.eqv p q else PyData.eqv p q)) st else .bad
  | _, _ => .bad
theorem o_eqD {k : Nat} (hr : Room k X.A) : OpD X Wx (compareOp .Eq) (eqD false) := by
  intro pins s σ w st x y vx vy v u Q I c rx ry rv ru h
  unfold eqD at h
  split at h
  · rename_i p q e1 e2
    split at h
    · rename_i hd
      obtain ⟨z1, z2⟩ := pyD_ok c x vx p rx e1
      obtain ⟨z3, z4⟩ := pyD_ok c y vy q ry e2
      obtain ⟨as, t1⟩ := Dp.reads I p vx v z1 rv
      obtain ⟨bs, t2⟩ := Dp.reads I q vy u z3 ru
      refine PySem.SeqAt.eq_plain t1 t2 z2 z4 (by have := hr.units; have hd' : min p.depth q.depth ≤ 60 := hd; omega) ⟨.bl _, w.H, I, rfl, ?_⟩
      exact h w _ (.refl _) (rel_bl _ _) c
    · exact h.elim
  · exact h.elim
theorem o_neD {k : Nat} (hr : Room k X.A) : OpD X Wx (compareOp .NotEq) (eqD true) := by
  intro pins s σ w st x y vx vy v u Q I c rx ry rv ru h
  unfold eqD at h
  split at h
  · rename_i p q e1 e2
    split at h
    · rename_i hd
      obtain ⟨z1, z2⟩ := pyD_ok c x vx p rx e1
      obtain ⟨z3, z4⟩ := pyD_ok c y vy q ry e2
      obtain ⟨as, t1⟩ := Dp.reads I p vx v z1 rv
      obtain ⟨bs, t2⟩ := Dp.reads I q vy u z3 ru
      refine PySem.SeqAt.ne_plain t1 t2 z2 z4 (by have := hr.units; have hd' : min p.depth q.depth ≤ 60 := hd; omega) ⟨.bl _, w.H, I, rfl, ?_⟩
      exact h w _ (.refl _) (rel_bl _ _) c
    · exact h.elim
  · exact h.elim

/-! ### new objects -/
/-- a new list: live or frozen -/
def mkL (lv : Bool) (xs : List D) (st : Sto) : Res D := if lv = true then .ok (.ref st.length) (st ++ [.lst xs]) else .ok (.lst xs) st
theorem Corr.push {K : PySem.W.Frag} {w : Wd} {st : Sto} (c : Corr K w st) {p : Addr} (o : HO) (so : SO) (hp : w.H p = none) (r : RelO K w so o) :
    let w' : Wd := ⟨upd w.H p o, w.mu ++ [p], w.xi⟩
    w.Le w' ∧ Corr K w' (st ++ [so]) ∧ w'.mu[st.length]? = some p := by
  have pm : p ∉ w.mu := fun h => by
    obtain ⟨u, e⟩ := c.here h
    rw [hp] at e
    cases e
  have px : p ∉ w.xi := fun h => by
    obtain ⟨u, e⟩ := c.hid p h
    rw [hp] at e
    cases e
  have S : w.Sub ⟨upd w.H p o, w.mu ++ [p], w.xi⟩ := ⟨fun a u h => by
    obtain ⟨h1, h2, h3⟩ := Wd.fr_some.mp h
    have ne : a ≠ p := fun e => by
      rw [e, hp] at h3
      cases h3
    exact Wd.fr_some.mpr ⟨by
      intro hm
      rcases List.mem_append.mp hm with hm | hm
      · exact h1 hm
      · exact ne (List.mem_singleton.mp hm), h2, by
      show upd w.H p o a = some u
      rw [upd_ne ne]
      exact h3⟩, List.prefix_append _ _⟩
  refine ⟨⟨S, rfl, fun a ha => ?_⟩, ⟨?_, ?_, fun a ha => ?_, fun a ha => ?_, fun n a u h1 h2 => ?_⟩, ?_⟩
  · show upd w.H p o a = w.H a
    exact upd_ne fun e => px (by rw [← e]; exact ha)
  · show (w.mu ++ [p]).Nodup
    rw [List.nodup_append]
    refine ⟨c.nd, List.pairwise_singleton _ _, fun x hx y hy e => ?_⟩
    rw [List.mem_singleton.mp hy] at e
    exact pm (by rw [← e]; exact hx)
  · show (st ++ [so]).length = (w.mu ++ [p]).length
    rw [List.length_append, List.length_append, c.len]
    rfl
  · rcases List.mem_append.mp ha with ha | ha
    · exact c.apart a ha
    · rw [List.mem_singleton.mp ha]
      exact px
  · obtain ⟨u, e⟩ := c.hid a ha
    refine ⟨u, ?_⟩
    show upd w.H p o a = some u
    rw [upd_ne fun q => px (by rw [← q]; exact ha)]
    exact e
  · have h1' : (w.mu ++ [p])[n]? = some a := h1
    by_cases hn : n < w.mu.length
    · rw [List.getElem?_append_left hn] at h1'
      rw [List.getElem?_append_left (by rw [c.len]; exact hn)] at h2
      obtain ⟨v, e, r⟩ := c.obj n a u h1' h2
      refine ⟨v, ?_, RelO.sub S r⟩
      show upd w.H p o a = some v
      rw [upd_ne fun q => pm (by rw [← q]; exact List.mem_of_getElem? h1')]
      exact e
    · have hn' : n = w.mu.length := by
        have := (List.getElem?_eq_some_iff.mp h1').1
        rw [List.length_append] at this
        simp only [List.length_cons, List.length_nil] at this
        omega
      subst hn'
      have e1 : p = a := by simpa using h1'
      subst e1
      have e2 : so = u := by
        rw [← c.len] at h2
        simpa using h2
      subst e2
      exact ⟨o, upd_same, RelO.sub S r⟩
  · show (w.mu ++ [p])[st.length]? = some p
    rw [c.len]
    simp
theorem post_newL {w : Wd} {σ : L2.St} {st : Sto} {lv : Bool} {xs : List D} {vs : List V} {Q : VK} (c : Corr X.K w st) (r : Rels X.K w xs vs) (h : Post X.K (Rel X.K) w σ Wx Q (mkL lv xs st)) (p : Addr) (hp : w.H p = none) : Q (.ref p) (upd w.H p (.lst vs)) := by
  cases lv with
  | true =>
    have h2 : Post X.K (Rel X.K) w σ Wx Q (.ok (.ref st.length) (st ++ [.lst xs])) := h
    obtain ⟨l, c', e⟩ := c.push (.lst vs) (.lst xs) hp ⟨vs, rfl, r⟩
    exact h2 _ (.ref p) l (by unfold Rel; exact ⟨p, rfl, e⟩) c'
  | false =>
    have h2 : Post X.K (Rel X.K) w σ Wx Q (.ok (.lst xs) st) := h
    obtain ⟨l, c', e⟩ := c.new (.lst vs) hp
    exact h2 _ (.ref p) l (by unfold Rel; exact ⟨p, vs, rfl, e, r.le l⟩) c'
theorem post_newT {w : Wd} {σ : L2.St} {st : Sto} {xs : List D} {vs : List V} {Q : VK} (c : Corr X.K w st) (r : Rels X.K w xs vs) (h : Post X.K (Rel X.K) w σ Wx Q (.ok (.tup xs) st)) (p : Addr) (hp : w.H p = none) : Q (.ref p) (upd w.H p (.tup vs)) := by
  obtain ⟨l, c', e⟩ := c.new (.tup vs) hp
  exact h _ (.ref p) l (by unfold Rel; exact ⟨p, vs, rfl, e, r.le l⟩) c'
def eLst (lv : Bool) (ms : M (List D)) : M D := fun env st => (ms env st).bind fun xs s1 => if Ok (xs.length ≤ sizeLine) then mkL lv xs s1 else .bad
def eTup (ms : M (List D)) : M D := fun env st => (ms env st).bind fun xs s1 => if Ok (xs.length ≤ sizeLine) then .ok (.tup xs) s1 else .bad
theorem ce_lst {lv : Bool} (h : CA X Wx es ms) : CE X Wx (.List es pos) (eLst lv ms) := PE.mono (pe_lst h) fun σ H Q h => by
  obtain ⟨mu, xi, env, st, re, c, h⟩ := h
  refine tG_mono (tG_bind (R := Rels X.K) re c h) fun v H1 ⟨mu1, xi1, d, st1, l1, r1, c1, re1, p1⟩ => ?_
  by_cases hl : Ok (d.length ≤ sizeLine)
  · rw [if_pos hl] at p1
    exact ⟨by rw [← r1.length]; exact hl, fun p hp => post_newL c1 r1 p1 p hp⟩
  · rw [if_neg hl] at p1
    exact p1.elim
theorem ce_tup {k} (h : CA X Wx es ms) : CE X Wx (.Tuple es k pos) (eTup ms) := PE.mono (pe_tup h) fun σ H Q h => by
  obtain ⟨mu, xi, env, st, re, c, h⟩ := h
  refine tG_mono (tG_bind (R := Rels X.K) re c h) fun v H1 ⟨mu1, xi1, d, st1, l1, r1, c1, re1, p1⟩ => ?_
  by_cases hl : Ok (d.length ≤ sizeLine)
  · rw [if_pos hl] at p1
    exact ⟨by rw [← r1.length]; exact hl, fun p hp => post_newT c1 r1 p1 p hp⟩
  · rw [if_neg hl] at p1
    exact p1.elim

/-! ### texts: +, order, in -/
def addS : D2
  | .str x, .str y, st => if Ok (x.length + y.length ≤ sizeLine) then .ok (.str (x ++ y)) st else .bad
  | _, _, _ => .bad
theorem o_addS : OpD X Wx (binaryOp .Add) addS := opd_of op_add_str fun w σ st x y vx vy Q c rx ry h => by
  cases x with
  | str i =>
    cases y with
    | str j =>
      unfold Rel at rx ry
      have h2 : Post X.K (Rel X.K) w σ Wx Q (if Ok (i.length + j.length ≤ sizeLine) then .ok (.str (i ++ j)) st else .bad) := h
      by_cases q : Ok (i.length + j.length ≤ sizeLine)
      · rw [if_pos q] at h2
        exact ⟨i, j, rx, ry, q, h2 w _ (.refl _) (rel_str _ _) c⟩
      · rw [if_neg q] at h2
        exact h2.elim
    | _ => exact h.elim
  | _ => exact h.elim
/-- tuple + tuple -/
def addT : D2 := fun x y st => match seqT x, seqT y with
  | some xs, some ys => if Ok (xs.length + ys.length ≤ sizeLine) then .ok (.tup (xs ++ ys)) st else .bad
  | _, _ => .bad
theorem Rels.nil_iff {K : PySem.W.Frag} {w : Wd} {xs : List D} {vs : List V} (r : Rels K w xs vs) : vs = [] ↔ xs = [] := by
  have h := r.length
  cases xs <;> cases vs <;> simp_all
theorem o_addT : OpD X Wx (binaryOp .Add) addT := opd_of op_catA fun w σ st x y vx vy Q c rx ry h => by
  unfold addT at h
  split at h
  · rename_i xs ys e1 e2
    split at h
    · rename_i hz
      obtain ⟨a1, v1, ea, q1, s1⟩ := seqT_ok rx e1
      obtain ⟨a2, v2, eb, q2, s2⟩ := seqT_ok ry e2
      have ex : x = .tup xs := by
        cases x with
        | tup z => exact congrArg D.tup (Option.some.inj e1)
        | _ => cases e1
      have ey : y = .tup ys := by
        cases y with
        | tup z => exact congrArg D.tup (Option.some.inj e2)
        | _ => cases e2
      subst ex ey ea eb
      refine ⟨a1, a2, v1, v2, rfl, rfl, q1, q2, by rw [← s1.length, ← s2.length]; exact hz, fun e0 => ?_, fun e0 e3 => ?_, fun e0 e3 p hp => ?_⟩
      · have e4 := s1.nil_iff.mp e0
        subst e4
        exact h w _ (.refl _) ry c
      · have e4 := s2.nil_iff.mp e3
        subst e4
        rw [List.append_nil] at h
        exact h w _ (.refl _) rx c
      · exact post_newT c (s1.append s2) h p hp
    · exact h.elim
  · exact h.elim
/-- list + list -/
theorem op_catS : OpR X (binaryOp .Add) (fun x y H Q => ∃ l b xs ys, x = .ref l ∧ y = .ref b ∧ SqL X.K H l xs ∧ SqL X.K H b ys ∧ xs.length + ys.length ≤ sizeLine ∧ ∀ p, H p = none → Q (.ref p) (upd H p (.lst (xs ++ ys)))) := by
  intro pins s σ H x y v u Q I rx ry h
  obtain ⟨l, b, xs, ys, rfl, rfl, hl, hb, hz, q⟩ := h
  cases rx
  cases ry
  obtain ⟨its, r1, p1, _⟩ := I.list hl
  obtain ⟨its2, r2, p2, _⟩ := I.list hb
  have hlen := r1.length
  have hlen2 := r2.length
  obtain ⟨⟨cls, dd, data, sl⟩, ho, hc, n, hd⟩ := id p1.isList
  obtain ⟨⟨cls2, dd2, data2, sl2⟩, ho2, hc2, n2, hd2⟩ := id p2.isList
  simp only at hc hd hc2 hd2
  subst hc hd hc2 hd2
  have e : its.toArray ++ its2.toArray = (its ++ its2).toArray := by simp
  refine PySem.concat_meets ⟨_, ho, rfl⟩ ⟨_, ho2, rfl⟩ PySem.noFill_list_add PySem.seq_list_add PySem.F.slot_list_add PySem.F.entry_list_add (PySem.F.args_list_add_2 _ _)
    (PyProof.Rows.list_addW l b its.toArray its2.toArray n n2 dd dd2 sl sl2 (by rw [List.size_toArray, List.size_toArray, ← hlen, ← hlen2]; exact hz)) ⟨ho, ho2, ?_⟩
  rw [e]
  exact ⟨.ref s.heap.objs.size, _, I.lnew (t' := s.toks) (r1.append r2) (by rw [List.length_append]; exact hz), rfl, q _ I.fresh⟩
def addL : D2 := fun x y st => match seqL st x, seqL st y with
  | some xs, some ys => if Ok (xs.length + ys.length ≤ sizeLine) then .ok (.lst (xs ++ ys)) st else .bad
  | _, _ => .bad
theorem o_addL : OpD X Wx (binaryOp .Add) addL := opd_of op_catS fun w σ st x y vx vy Q c rx ry h => by
  unfold addL at h
  split at h
  · rename_i xs ys e1 e2
    split at h
    · rename_i hz
      obtain ⟨a1, v1, ea, q1, s1⟩ := seqL_ok c rx e1
      obtain ⟨a2, v2, eb, q2, s2⟩ := seqL_ok c ry e2
      subst ea eb
      exact ⟨a1, a2, v1, v2, rfl, rfl, q1, q2, by rw [← s1.length, ← s2.length]; exact hz, fun p hp => post_newL (lv := false) c (s1.append s2) h p hp⟩
    · exact h.elim
  · exact h.elim
end
end ND
end
noncomputable section
namespace ND
open PySem L2 PyProof.Rows
section
variable {X : Cx} {Wx : WX} {a b c e o : Expr} {es : List Expr} {ma mb mc me : M D} {ms : M (List D)} {pos p2 : Pos} {lo hi : Option Expr}
/-! ### subscripts -/
def ixD : D2 := fun x y st => match y with
  | .int i => match x with
    | .str z => if Ok (z.length ≤ sizeLine) then (match atI z.cps.toList i with
      | some ch => .ok (.str ⟨#[ch]⟩) st
      | none => .bad) else .bad
    | .tup xs => (match atI xs i with
      | some d => .ok d st
      | none => .bad)
    | _ => match seqL st x with
      | some xs => (match atI xs i with
        | some d => .ok d st
        | none => .bad)
      | none => .bad
  | _ => .bad
theorem Rels.atI {K : PySem.W.Frag} {w : Wd} {xs : List D} {vs : List V} {i : Int} {d : D} (r : Rels K w xs vs) (h : L2.atI xs i = some d) : ∃ v, L2.atI vs i = some v ∧ Rel K w d v := by
  unfold L2.atI at h ⊢
  rw [← r.length]
  cases e : ixN xs.length i with
  | none =>
    rw [e] at h
    cases h
  | some j =>
    rw [e] at h
    exact r.get h
theorem ixD_ok {w : Wd} {σ : L2.St} {st : Sto} {x y : D} {vx vy : V} {Q : VK} (c : Corr X.K w st) (rx : Rel X.K w x vx) (ry : Rel X.K w y vy) (h : Post X.K (Rel X.K) w σ Wx Q (ixD x y st)) : rIx X.K vx vy w.H Q := by
  unfold ixD at h
  cases y with
  | int i =>
    unfold Rel at ry
    subst ry
    have seqCase : ∀ xs, seqL st x = some xs → Post X.K (Rel X.K) w σ Wx Q (match L2.atI xs i with
        | some d => .ok d st
        | none => .bad) → rIx X.K vx (.int i) w.H Q := by
      intro xs hx h
      cases ha : L2.atI xs i with
      | none =>
        rw [ha] at h
        exact h.elim
      | some d =>
        rw [ha] at h
        obtain ⟨a1, v1, ea, q1, s1⟩ := seqL_ok c rx hx
        obtain ⟨v, hv, rv⟩ := s1.atI ha
        exact .inl ⟨a1, v1, i, v, ea, rfl, q1, hv, h w v (.refl _) rv c⟩
    have seqCase2 : Post X.K (Rel X.K) w σ Wx Q (match seqL st x with
      | some xs => (match L2.atI xs i with
        | some d => .ok d st
        | none => .bad)
      | none => .bad) → rIx X.K vx (.int i) w.H Q := by
      intro h
      cases hx : seqL st x with
      | none =>
        rw [hx] at h
        exact h.elim
      | some xs =>
        rw [hx] at h
        exact seqCase xs hx h
    cases x with
    | str z =>
      dsimp only at h
      unfold Rel at rx
      by_cases hz : Ok (z.length ≤ sizeLine)
      · rw [if_pos hz] at h
        cases ha : L2.atI z.cps.toList i with
        | none =>
          rw [ha] at h
          exact h.elim
        | some ch =>
          rw [ha] at h
          exact .inr (.inr ⟨z, i, ch, rx, rfl, hz, ha, h w _ (.refl _) (rel_str _ _) c⟩)
      · rw [if_neg hz] at h
        exact h.elim
    | tup xs =>
      dsimp only at h
      cases ha : L2.atI xs i with
      | none =>
        rw [ha] at h
        exact h.elim
      | some d =>
        rw [ha] at h
        obtain ⟨a1, v1, ea, q1, s1⟩ := seqT_ok (xs := xs) rx rfl
        obtain ⟨v, hv, rv⟩ := s1.atI ha
        exact .inr (.inl ⟨a1, v1, i, v, ea, rfl, q1, hv, h w v (.refl _) rv c⟩)
    | _ => exact seqCase2 h
  | _ => exact h.elim
theorem ce_ix (ha : CE X Wx a ma) (hb : CE X Wx b mb) (hs : PlainIx b := by intro _ _; rfl) : CE X Wx (.Subscript a b pos) (e2 ixD ma mb) := PE.mono (pe_ix ix_seq ha hb hs) fun σ H Q h => by
  obtain ⟨mu, xi, env, st, re, c, h⟩ := h
  exact tG_mono (tG_bind (R := Rel X.K) re c h) fun v H1 ⟨mu1, xi1, d, st1, l1, r1, c1, re1, p1⟩ =>
    tG_mono (tG_bind (R := Rel X.K) re1 c1 p1) fun v2 H2 ⟨mu2, xi2, d2, st2, l2, r2, c2, re2, p2⟩ => ixD_ok (w := ⟨H2, mu2, xi2⟩) c2 (r1.le l2) r2 p2
/-- xs[i] = v -/
def setL (x y z : D) (st : Sto) : Option Sto := match x, y with
  | .ref n, .int i => match st[n]? with
    | some (.lst xs) => match ixN xs.length i with
      | some j => some (st.set n (.lst (xs.set j z)))
      | none => none
    | _ => none
  | _, _ => none
/-- the store's n-th object changes -/
theorem Corr.set {K : PySem.W.Frag} {w : Wd} {st : Sto} (c : Corr K w st) {n : Nat} {p : Addr} {o : HO} {so : SO} (hn : w.mu[n]? = some p) (hs : n < st.length) (r : RelO K w so o) :
    let w' : Wd := ⟨upd w.H p o, w.mu, w.xi⟩
    w.Le w' ∧ Corr K w' (st.set n so) := by
  have pm : p ∈ w.mu := List.mem_of_getElem? hn
  have px : p ∉ w.xi := c.apart p pm
  have S : w.Sub ⟨upd w.H p o, w.mu, w.xi⟩ := ⟨fun a u h => by
    obtain ⟨h1, h2, h3⟩ := Wd.fr_some.mp h
    have ne : a ≠ p := fun e => h1 (by rw [e]; exact pm)
    exact Wd.fr_some.mpr ⟨h1, h2, by
      show upd w.H p o a = some u
      rw [upd_ne ne]
      exact h3⟩, List.prefix_rfl⟩
  refine ⟨⟨S, rfl, fun a ha => ?_⟩, ⟨c.nd, by rw [List.length_set]; exact c.len, c.apart, fun a ha => ?_, fun k a u h1 h2 => ?_⟩⟩
  · show upd w.H p o a = w.H a
    exact upd_ne fun e => px (by rw [← e]; exact ha)
  · obtain ⟨u, e⟩ := c.hid a ha
    refine ⟨u, ?_⟩
    show upd w.H p o a = some u
    rw [upd_ne fun q => px (by rw [← q]; exact ha)]
    exact e
  · by_cases q : n = k
    · subst q
      have e1 : p = a := Option.some.inj (hn.symm.trans h1)
      subst e1
      rw [List.getElem?_set_self hs] at h2
      cases h2
      exact ⟨o, upd_same, RelO.sub S r⟩
    · rw [List.getElem?_set_ne q] at h2
      obtain ⟨v, e, r'⟩ := c.obj k a u h1 h2
      refine ⟨v, ?_, RelO.sub S r'⟩
      have ne : a ≠ p := fun e => by
        subst e
        obtain ⟨l1, e1⟩ := List.getElem?_eq_some_iff.mp hn
        obtain ⟨l2, e2⟩ := List.getElem?_eq_some_iff.mp h1
        exact q ((List.getElem_inj c.nd).mp (e1.trans e2.symm))
      show upd w.H p o a = some v
      rw [upd_ne ne]
      exact e
theorem setL_ok {w : Wd} {st st' : Sto} {x y z : D} {vx vy vz : V} (c : Corr X.K w st) (rx : Rel X.K w x vx) (ry : Rel X.K w y vy) (rz : Rel X.K w z vz) (h : setL x y z st = some st') {Q : Hp → Prop} (q : ∀ w', w.Le w' → Corr X.K w' st' → Q w'.H) :
    rSetL vx vy vz w.H Q := by
  unfold setL at h
  split at h
  · rename_i n i
    split at h
    · rename_i xs hx
      split at h
      · rename_i j hj
        cases h
        unfold Rel at rx ry
        obtain ⟨a, e, hn⟩ := rx
        obtain ⟨u, hu, vs, e2, s⟩ := c.obj n a _ hn hx
        subst e2
        obtain ⟨l, c'⟩ := c.set (o := .lst (vs.set j vz)) (so := .lst (xs.set j z)) hn (List.getElem?_eq_some_iff.mp hx).1 ⟨_, rfl, s.set rz j⟩
        exact ⟨a, vs, i, j, e, ry, hu, by rw [← s.length]; exact hj, q _ l c'⟩
      · cases h
    · cases h
  · cases h

/-! ### slices -/
abbrev RO : Wd → Option Int → Option Int → Prop := fun _ a b => a = b
abbrev CO (X : Cx) (Wx : WX) (e : Option Expr) (m : M (Option Int)) : Prop := PO X e (tG X.K RO Wx m)
def oNone : M (Option Int) := fun _ st => .ok none st
def oSome (m : M D) : M (Option Int) := fun env st => (m env st).bind fun d s1 => match d with
  | .int i => .ok (some i) s1
  | _ => .bad
theorem PO.mono {e : Option Expr} {t t' : TO} (h : PO X e t) (i : ∀ σ H Q, t' σ H Q → t σ H Q) : PO X e t' := ⟨fun pins s σ H Q I q => h.run pins s σ H Q I (i σ H Q q)⟩
theorem co_none : CO X Wx none oNone := PO.mono po_none fun σ H Q h => by
  obtain ⟨mu, xi, env, st, re, c, h⟩ := h
  exact h ⟨H, mu, xi⟩ none (.refl _) rfl c
theorem co_some (ha : CE X Wx a ma) : CO X Wx (some a) (oSome ma) := PO.mono (po_some ha) fun σ H Q h => by
  obtain ⟨mu, xi, env, st, re, c, h⟩ := h
  refine tG_mono (tG_bind (R := Rel X.K) re c h) fun v H1 ⟨mu1, xi1, d, st1, l1, r1, c1, re1, p1⟩ => ?_
  cases d with
  | int i =>
    unfold Rel at r1
    exact ⟨i, r1, p1 ⟨H1, mu1, xi1⟩ (some i) (.refl _) rfl c1⟩
  | _ => exact p1.elim
def cutD {α : Type} (xs : List α) (lo hi : Option Int) : List α := (xs.drop (HT.sIx xs.length 0 lo)).take (HT.sIx xs.length xs.length hi - HT.sIx xs.length 0 lo)
def cutStr (z : Str) (lo hi : Option Int) : Str := ⟨(cutD z.cps.toList lo hi).toArray⟩
def slD (x : D) (lo hi : Option Int) (st : Sto) : Res D := match x with
  | .str z => if Ok (z.length ≤ sizeLine) then .ok (.str (cutStr z lo hi)) st else .bad
  | .tup xs => .ok (.tup (cutD xs lo hi)) st
  | _ => match seqL st x with
    | some xs => .ok (.lst (cutD xs lo hi)) st
    | none => .bad
def eSl (ma : M D) (ml mh : M (Option Int)) : M D := fun env st => (ma env st).bind fun x s1 => (ml env s1).bind fun lo s2 => (mh env s2).bind fun hi s3 => slD x lo hi s3
/-- .. a new list that lives -/
def slDL (x : D) (lo hi : Option Int) (st : Sto) : Res D := match seqL st x with
  | some xs => mkL true (cutD xs lo hi) st
  | none => .bad
theorem cut_rel {K : PySem.W.Frag} {w : Wd} {xs : List D} {vs : List V} (r : Rels K w xs vs) (lo hi : Option Int) : Rels K w (cutD xs lo hi) (cutV vs lo hi) := by
  unfold cutD cutV
  rw [← r.length]
  exact (r.drop _).take _
theorem cutStr_eq (z : Str) (lo hi : Option Int) : cutS z lo hi = cutStr z lo hi := by
  unfold cutS cutStr cutD
  rw [Array.length_toList]
  rfl
theorem slD_ok {w : Wd} {σ : L2.St} {st : Sto} {x : D} {vx : V} {lo hi : Option Int} {Q : VK} (c : Corr X.K w st) (rx : Rel X.K w x vx) (h : Post X.K (Rel X.K) w σ Wx Q (slD x lo hi st)) :
    (rSlL X.K vx lo hi w.H Q ∨ rSlA X.K vx lo hi w.H Q) ∨ rSlS vx lo hi w.H Q := by
  have lst : (∀ xs, seqL st x = some xs → Post X.K (Rel X.K) w σ Wx Q (.ok (.lst (cutD xs lo hi)) st) → rSlL X.K vx lo hi w.H Q) := by
    intro xs hx h
    obtain ⟨a1, v1, ea, q1, s1⟩ := seqL_ok c rx hx
    exact ⟨a1, v1, ea, q1, fun p hp => post_newL (lv := false) c (cut_rel s1 lo hi) h p hp⟩
  have lst2 : Post X.K (Rel X.K) w σ Wx Q (match seqL st x with
    | some xs => .ok (.lst (cutD xs lo hi)) st
    | none => .bad) → rSlL X.K vx lo hi w.H Q := by
    intro h
    cases hx : seqL st x with
    | none =>
      rw [hx] at h
      exact h.elim
    | some xs =>
      rw [hx] at h
      exact lst xs hx h
  unfold slD at h
  cases x with
  | str z =>
    dsimp only at h
    unfold Rel at rx
    by_cases hz : Ok (z.length ≤ sizeLine)
    · rw [if_pos hz] at h
      refine .inr ⟨z, rx, hz, ?_⟩
      rw [cutStr_eq]
      exact h w _ (.refl _) (rel_str _ _) c
    · rw [if_neg hz] at h
      exact h.elim
  | tup xs =>
    dsimp only at h
    obtain ⟨a1, v1, ea, q1, s1⟩ := seqT_ok (xs := xs) rx rfl
    refine .inl (.inr ⟨a1, v1, ea, q1, fun hw => ?_, fun hw p hp => post_newT c (cut_rel s1 lo hi) h p hp⟩)
    have e : cutD xs lo hi = xs := by
      rw [← s1.length] at hw
      unfold cutD
      rw [hw.1, hw.2, List.drop_zero, Nat.sub_zero, List.take_length]
    rw [e] at h
    rw [ea] at rx
    exact h w _ (.refl _) rx c
  | _ => exact .inl (.inl (lst2 h))
theorem ce_sl {ml mh : M (Option Int)} (ha : CE X Wx a ma) (hl : CO X Wx lo ml) (hh : CO X Wx hi mh) : CE X Wx (.Subscript a (.Slice lo hi none p2) pos) (eSl ma ml mh) := PE.mono (pe_slice ((sl_list.or sl_tupA).or sl_str) ha hl hh) fun σ H Q h => by
  obtain ⟨mu, xi, env, st, re, c, h⟩ := h
  exact tG_mono (tG_bind (R := Rel X.K) re c h) fun v H1 ⟨mu1, xi1, d, st1, l1, r1, c1, re1, p1⟩ =>
    tG_mono (tG_bind (R := RO) re1 c1 p1) fun v2 H2 ⟨mu2, xi2, d2, st2, l2, r2, c2, re2, p2⟩ =>
      tG_mono (tG_bind (R := RO) re2 c2 p2) fun v3 H3 ⟨mu3, xi3, d3, st3, l3, r3, c3, re3, p3⟩ => by
        cases r2
        cases r3
        exact slD_ok (w := ⟨H3, mu3, xi3⟩) c3 ((r1.le l2).le l3) p3

/-! ### calls of built-ins -/
abbrev DF : Type := List D → Sto → Res D
def CallD (X : Cx) (Wx : WX) (f : Value) (g : DF) : Prop :=
  ∀ (pins : List (Addr × Obj)) (s : Shared) (σ : L2.St) (w : Wd) (st : Sto) (ds : List D) (vs : List V) (us : List Value) (Q : VK), Inv X pins σ w.H s → Corr X.K w st → Rels X.K w ds vs → Vals vs us →
    Post X.K (Rel X.K) w σ Wx Q (g ds st) → wpAny (model X.prog X.w) X.A (call f us) (EP X pins σ Q) X.xe s
theorem calld_of {f : Value} {g : DF} {r : List V → Hp → VK → Prop} (ho : CallR X f r) (sd : ∀ (w : Wd) (σ : L2.St) (st : Sto) (ds : List D) (vs : List V) (Q : VK), Corr X.K w st → Rels X.K w ds vs → Post X.K (Rel X.K) w σ Wx Q (g ds st) → r vs w.H Q) : CallD X Wx f g := by
  intro pins s σ w st ds vs us Q I c r rv h
  exact ho pins s σ w.H vs us Q I rv (sd w σ st ds vs Q c r h)
theorem CallD.ite {f : Value} {g1 g2 : DF} (p : List D → Sto → Bool) (h1 : CallD X Wx f g1) (h2 : CallD X Wx f g2) : CallD X Wx f (fun ds st => if p ds st = true then g1 ds st else g2 ds st) := by
  intro pins s σ w st ds vs us Q I c r rv h
  dsimp only at h
  by_cases q : p ds st = true
  · rw [if_pos q] at h
    exact h1 pins s σ w st ds vs us Q I c r rv h
  · rw [if_neg q] at h
    exact h2 pins s σ w st ds vs us Q I c r rv h
def eC (g : DF) (ms : M (List D)) : M D := fun env st => (ms env st).bind fun ds s1 => g ds s1
theorem ce_callB {x : Str} {p : Pos} {id : String} {g : DF} (hc : CallD X Wx (.builtin id) g) (hm : X.mg x = none) (hv : bootBuiltins x = some (.builtin id)) (ha : CA X Wx (e :: es) ms) (hg : Gl X x := by rfl) (hn : x ≠ "__name__" := by decide) (hdb : (x == ("__debug__" : Str)) = false := by decide)
    (he : starEach (e :: es) X.env = (false, eval e X.env) :: starEach es X.env := by rfl) (hpl : (backTo pos (starEach es X.env)).any (·.1) = false := by rfl) : CE X Wx (.Call (.Name x p) (e :: es) [] pos) (eC g ms) := by
  refine ⟨fun pins s σ H Q I h => ?_⟩
  obtain ⟨mu, xi, env, st, re, c, h⟩ := h
  refine wpAny_Call_Name_kw (ld_blt I hg hm hv ?_ hn hdb)
  exact PyProof.Rows.callWith_builtin1 (thn (ha.run pos pins s σ H _ I (tG_bind (R := Rels X.K) re c h)) fun us s1 ⟨vs, H1, I1, rv, mu1, xi1, d, st1, l1, r1, c1, re1, p1⟩ => hc pins s1 σ ⟨H1, mu1, xi1⟩ st1 d vs us Q I1 c1 r1 rv p1) he hpl
theorem ce_callTy {x : Str} {p : Pos} {T : String} {g : DF} (hc : CallD X Wx (.type T) g) (hm : X.mg x = none) (hv : bootBuiltins x = some (.type T)) (ha : CA X Wx (e :: es) ms) (hg : Gl X x := by rfl) (hn : x ≠ "__name__" := by decide) (hdb : (x == ("__debug__" : Str)) = false := by decide)
    (he : starEach (e :: es) X.env = (false, eval e X.env) :: starEach es X.env := by rfl) (hpl : (backTo pos (starEach es X.env)).any (·.1) = false := by rfl) : CE X Wx (.Call (.Name x p) (e :: es) [] pos) (eC g ms) := by
  refine ⟨fun pins s σ H Q I h => ?_⟩
  obtain ⟨mu, xi, env, st, re, c, h⟩ := h
  refine wpAny_Call_Name_kw (ld_blt I hg hm hv ?_ hn hdb)
  exact PyProof.Rows.callWith_type1 (thn (ha.run pos pins s σ H _ I (tG_bind (R := Rels X.K) re c h)) fun us s1 ⟨vs, H1, I1, rv, mu1, xi1, d, st1, l1, r1, c1, re1, p1⟩ => hc pins s1 σ ⟨H1, mu1, xi1⟩ st1 d vs us Q I1 c1 r1 rv p1) he hpl
theorem Rels.one {K : PySem.W.Frag} {w : Wd} {x : D} {vs : List V} (h : Rels K w [x] vs) : ∃ v, vs = [v] ∧ Rel K w x v := by
  obtain ⟨v, r, e, q, t⟩ := h.inv
  unfold Rels at t
  subst t
  exact ⟨v, e, q⟩
theorem Rels.two {K : PySem.W.Frag} {w : Wd} {x y : D} {vs : List V} (h : Rels K w [x, y] vs) : ∃ v u, vs = [v, u] ∧ Rel K w x v ∧ Rel K w y u := by
  obtain ⟨v, r, e, q, t⟩ := h.inv
  obtain ⟨u, e2, q2⟩ := t.one
  subst e2
  exact ⟨v, u, e, q, q2⟩
def lenD : DF
  | [.str z], st => if Ok (z.length ≤ sizeLine) then .ok (.int z.length) st else .bad
  | [.tup xs], st => .ok (.int xs.length) st
  | [x], st => match seqL st x with
    | some xs => .ok (.int xs.length) st
    | none => .bad
  | _, _ => .bad
theorem c_len : CallD X Wx (.builtin "len") lenD := calld_of (call_len_seq.or call_len_str) fun w σ st ds vs Q c r h => by
  have lst : ∀ x, Rels X.K w [x] vs → Post X.K (Rel X.K) w σ Wx Q (match seqL st x with
      | some xs => .ok (.int xs.length) st
      | none => .bad) → ∃ p ys, vs = [.ref p] ∧ (SqL X.K w.H p ys ∨ SqT X.K w.H p ys) ∧ Q (.int ys.length) w.H := by
    intro x r h
    obtain ⟨v, e, rx⟩ := r.one
    subst e
    cases hx : seqL st x with
    | none =>
      rw [hx] at h
      exact h.elim
    | some xs =>
      rw [hx] at h
      obtain ⟨a1, v1, ea, q1, s1⟩ := seqL_ok c rx hx
      subst ea
      refine ⟨a1, v1, rfl, .inl q1, ?_⟩
      rw [← s1.length]
      exact h w _ (.refl _) (rel_int _ _) c
  cases ds with
  | nil => exact h.elim
  | cons x t =>
    cases t with
    | cons y t => cases x <;> exact h.elim
    | nil =>
      cases x with
      | str z =>
        obtain ⟨v, e, rx⟩ := r.one
        unfold Rel at rx
        subst rx
        have h2 : Post X.K (Rel X.K) w σ Wx Q (if Ok (z.length ≤ sizeLine) then .ok (.int z.length) st else .bad) := h
        by_cases hz : Ok (z.length ≤ sizeLine)
        · rw [if_pos hz] at h2
          exact .inr ⟨z, e, hz, h2 w _ (.refl _) (rel_int _ _) c⟩
        · rw [if_neg hz] at h2
          exact h2.elim
      | tup xs =>
        obtain ⟨v, e, rx⟩ := r.one
        obtain ⟨a1, v1, ea, q1, s1⟩ := seqT_ok (xs := xs) rx rfl
        subst ea
        have h2 : Post X.K (Rel X.K) w σ Wx Q (.ok (.int xs.length) st) := h
        refine .inl ⟨a1, v1, e, .inr q1, ?_⟩
        rw [← s1.length]
        exact h2 w _ (.refl _) (rel_int _ _) c
      | _ => exact .inl (lst _ r h)
/-- one int in -/
def i1 (g : Int → D) : DF
  | [.int i], st => .ok (g i) st
  | _, _ => .bad
theorem c_i1 {f : Value} {g : Int → D} {g' : Int → V} (ho : CallR X f (fun xs H Q => ∃ i, xs = [.int i] ∧ Q (g' i) H)) (hg : ∀ w i, Rel X.K w (g i) (g' i)) : CallD X Wx f (i1 g) := calld_of ho fun w σ st ds vs Q c r h => by
  unfold i1 at h
  split at h
  · rename_i i
    obtain ⟨v, e, rx⟩ := r.one
    unfold Rel at rx
    subst rx
    exact ⟨i, e, h w _ (.refl _) (hg _ _) c⟩
  · exact h.elim
def absI : Int → Int := fun i => if i < 0 then -i else i
theorem c_abs : CallD X Wx (.builtin "abs") (i1 fun i => .int (absI i)) := c_i1 call_abs fun w i => rel_int _ _
/-- two ints in -/
def i2f (g : Int → Int → D) : DF
  | [.int i, .int j], st => .ok (g i j) st
  | _, _ => .bad
theorem c_i2 {f : Value} {g : Int → Int → D} {g' : Int → Int → V} (ho : CallR X f (fun xs H Q => ∃ i j, xs = [.int i, .int j] ∧ Q (g' i j) H)) (hg : ∀ w i j, Rel X.K w (g i j) (g' i j)) : CallD X Wx f (i2f g) := calld_of ho fun w σ st ds vs Q c r h => by
  unfold i2f at h
  split at h
  · rename_i i j
    obtain ⟨v, u, e, rx, ry⟩ := r.two
    unfold Rel at rx ry
    subst rx ry
    exact ⟨i, j, e, h w _ (.refl _) (hg _ _ _) c⟩
  · exact h.elim
def maxI (i j : Int) : Int := if j > i then j else i
def minI (i j : Int) : Int := if j < i then j else i
theorem c_max2 (hc : X.calm = true) : CallD X Wx (.builtin "max") (i2f fun i j => .int (maxI i j)) := c_i2 (call_max2 hc) fun w i j => rel_int _ _
theorem c_min2 (hc : X.calm = true) : CallD X Wx (.builtin "min") (i2f fun i j => .int (minI i j)) := c_i2 (call_min2 hc) fun w i j => rel_int _ _
def intD : DF
  | [.int i], st => .ok (.int i) st
  | [.bl k], st => .ok (.int (if k then 1 else 0)) st
  | _, _ => .bad
theorem c_int : CallD X Wx (.type "int") intD := calld_of call_int1 fun w σ st ds vs Q c r h => by
  unfold intD at h
  split at h
  · rename_i i
    obtain ⟨v, e, rx⟩ := r.one
    unfold Rel at rx
    subst rx
    exact .inl ⟨i, e, h w _ (.refl _) (rel_int _ _) c⟩
  · rename_i k
    obtain ⟨v, e, rx⟩ := r.one
    unfold Rel at rx
    subst rx
    exact .inr ⟨k, e, h w _ (.refl _) (rel_int _ _) c⟩
  · exact h.elim
/-- the text of an int -/
def strI (i : Int) : Str := Str.ofString (toString i)
def strD : DF
  | [.int i], st => if Ok (i.natAbs.log2 < 1920) then .ok (.str (strI i)) st else .bad
  | _, _ => .bad
theorem c_strI : CallD X Wx (.type "str") strD := calld_of call_str_int fun w σ st ds vs Q c r h => by
  unfold strD at h
  split at h
  · rename_i i
    split at h
    · rename_i hz
      obtain ⟨v, e, rx⟩ := r.one
      unfold Rel at rx
      subst rx
      exact ⟨i, e, hz, h w _ (.refl _) (rel_str _ _) c⟩
    · exact h.elim
  · exact h.elim
/-- list(x), tuple(x) -/
def seqX (st : Sto) (x : D) : Option (List D) := match seqL st x with
  | some xs => some xs
  | none => seqT x
def listD (lv : Bool) : DF
  | [x], st => match seqX st x with
    | some xs => mkL lv xs st
    | none => .bad
  | _, _ => .bad
theorem seqX_ok {K : PySem.W.Frag} {w : Wd} {st : Sto} {d : D} {v : V} {xs : List D} (c : Corr K w st) (r : Rel K w d v) (h : seqX st d = some xs) : ∃ a vs, v = .ref a ∧ (SqL K w.H a vs ∨ SqT K w.H a vs) ∧ Rels K w xs vs := by
  unfold seqX at h
  split at h
  · rename_i ys hy
    cases h
    obtain ⟨a, vs, e, q, s⟩ := seqL_ok c r hy
    exact ⟨a, vs, e, .inl q, s⟩
  · obtain ⟨a, vs, e, q, s⟩ := seqT_ok r h
    exact ⟨a, vs, e, .inr q, s⟩
theorem c_list {lv : Bool} : CallD X Wx (.type "list") (listD lv) := calld_of call_list_of fun w σ st ds vs Q c r h => by
  unfold listD at h
  split at h
  · rename_i x
    split at h
    · rename_i xs hx
      obtain ⟨v, e, rx⟩ := r.one
      obtain ⟨a, ys, ea, q, s⟩ := seqX_ok c rx hx
      subst ea
      exact ⟨a, ys, e, q, fun p hp => post_newL c s h p hp⟩
    · exact h.elim
  · exact h.elim
def tupD : DF
  | [.tup xs], st => .ok (.tup xs) st
  | [x], st => match seqL st x with
    | some xs => .ok (.tup xs) st
    | none => .bad
  | _, _ => .bad
theorem c_tuple : CallD X Wx (.type "tuple") tupD := calld_of call_tuple_of fun w σ st ds vs Q c r h => by
  unfold tupD at h
  split at h
  · rename_i xs
    obtain ⟨v, e, rx⟩ := r.one
    obtain ⟨a1, v1, ea, q1, s1⟩ := seqT_ok (xs := xs) rx rfl
    subst ea
    exact ⟨a1, v1, e, .inr ⟨q1, h w _ (.refl _) rx c⟩⟩
  · rename_i x _
    split at h
    · rename_i xs hx
      obtain ⟨v, e, rx⟩ := r.one
      obtain ⟨a, ys, ea, q, s⟩ := seqL_ok c rx hx
      subst ea
      exact ⟨a, ys, e, .inl ⟨q, fun p hp => post_newT c s h p hp⟩⟩
    · exact h.elim
  · exact h.elim
/-- sorted(xs) of ints -/
def allInts : List D → Option (List Int)
  | [] => some []
  | .int i :: r => (allInts r).map (i :: ·)
  | _ :: _ => none
theorem allInts_ok : ∀ {xs : List D} {ns : List Int}, allInts xs = some ns → xs = ns.map .int
  | [], ns, h => by
    cases h
    rfl
  | x :: r, ns, h => by
    cases x with
    | int i =>
      have h2 : (allInts r).map (i :: ·) = some ns := h
      cases e : allInts r with
      | none =>
        rw [e] at h2
        cases h2
      | some ms =>
        rw [e] at h2
        cases h2
        rw [allInts_ok e]
        rfl
    | _ => cases h
theorem allInts_map : ∀ ns : List Int, allInts (ns.map .int) = some ns
  | [] => rfl
  | i :: r => by
    show (allInts (r.map .int)).map (i :: ·) = some (i :: r)
    rw [allInts_map r]
    rfl
def sortI (ns : List Int) : List Int := ns.mergeSort fun i j => decide (i ≤ j)
theorem sortI_same {ns ms : List Int} (p : ms.Perm ns) (s : ms.Pairwise (· ≤ ·)) : ms = sortI ns := by
  refine PySem.W.ksm_same (p.trans (List.mergeSort_perm ns _).symm) s ?_
  have h := List.pairwise_mergeSort (le := fun i j : Int => decide (i ≤ j)) (fun a b c h1 h2 => decide_eq_true (Int.le_trans (of_decide_eq_true h1) (of_decide_eq_true h2)))
    (fun a b => by
      rcases Int.le_total a b with h | h
      · rw [decide_eq_true h]
        rfl
      · rw [decide_eq_true h, Bool.or_true]) ns
  exact h.imp fun h => of_decide_eq_true h
def sortedD (lv : Bool) : DF
  | [x], st => match seqL st x with
    | some xs => match allInts xs with
      | some ns => mkL lv ((sortI ns).map .int) st
      | none => .bad
    | none => .bad
  | _, _ => .bad
theorem c_sorted {lv : Bool} : CallD X Wx (.builtin "sorted") (sortedD lv) := calld_of cr_sortedI fun w σ st ds vs Q c r h => by
  unfold sortedD at h
  split at h
  · rename_i x
    split at h
    · rename_i xs hx
      split at h
      · rename_i ns hn
        obtain ⟨v, e, rx⟩ := r.one
        obtain ⟨a, ys, ea, q, s⟩ := seqL_ok c rx hx
        subst ea
        rw [allInts_ok hn] at s
        have e2 := s.ints
        subst e2
        refine ⟨a, ns, e, q, fun ns' p pm ss hp => ?_⟩
        rw [sortI_same pm ss]
        exact post_newL c (Rels.ofInts _) h p hp
      · exact h.elim
    · exact h.elim
  · exact h.elim
end
end ND
end
noncomputable section
namespace ND
open PySem L2 PyProof.Rows
section
variable {K : PySem.W.Frag}
def PostS (K : PySem.W.Frag) (w : Wd) (Wx : WX) (E : Ends) : SRes → Prop
  | .nx e st => ∀ w' σ', w.Le w' → REnv K w' e σ' → Corr K w' st → E.nx σ' w'.H
  | .rt d st => ∀ w' v, w.Le w' → Rel K w' d v → Corr K w' st → E.rt v w'.H
  | .bk e st => ∀ w' σ', w.Le w' → REnv K w' e σ' → Corr K w' st → E.bk σ' w'.H
  | .ct e st => ∀ w' σ', w.Le w' → REnv K w' e σ' → Corr K w' st → E.ct σ' w'.H
  | .exc k fs xs e st => ∀ w' σ' dd, w.Le w' → REnv K w' e σ' → Corr K w' st → XRel K w' fs xs dd → Wx (.ref (gaS K k)) dd σ' w'.H
  | .bad => False
theorem PostS.le {w w1 : Wd} {Wx : WX} {E : Ends} {r : SRes} (h : PostS K w Wx E r) (l : w.Le w1) : PostS K w1 Wx E r := by
  cases r with
  | nx e st => exact fun w' σ' l' => h w' σ' (l.trans l')
  | rt d st => exact fun w' v l' => h w' v (l.trans l')
  | bk e st => exact fun w' σ' l' => h w' σ' (l.trans l')
  | ct e st => exact fun w' σ' l' => h w' σ' (l.trans l')
  | exc k fs xs e st => exact fun w' σ' dd l' => h w' σ' dd (l.trans l')
  | bad => exact h
abbrev MS : Type := Env → Sto → SRes
def tS (K : PySem.W.Frag) (Wx : WX) (m : MS) : TS := fun E σ H => ∃ mu xi env st, REnv K ⟨H, mu, xi⟩ env σ ∧ Corr K ⟨H, mu, xi⟩ st ∧ PostS K ⟨H, mu, xi⟩ Wx E (m env st)
def Res.toS {α : Type} (r : Res α) (env : Env) (f : α → Sto → SRes) : SRes := match r with
  | .ok a st => f a st
  | .exc k fs xs st => .exc k fs xs env st
  | .bad => .bad
@[simp] theorem Res.toS_ok {α : Type} (a : α) (st : Sto) (env : Env) (f : α → Sto → SRes) : (Res.ok a st).toS env f = f a st := rfl
@[simp] theorem Res.toS_exc {α : Type} (k : String) (fs : List String) (xs : List D) (st : Sto) (env : Env) (f : α → Sto → SRes) : (Res.exc k fs xs st : Res α).toS env f = .exc k fs xs env st := rfl
@[simp] theorem Res.toS_bad {α : Type} (env : Env) (f : α → Sto → SRes) : (Res.bad : Res α).toS env f = .bad := rfl
theorem tG_bindS {α ν : Type} {R : Wd → α → ν → Prop} {w : Wd} {σ : L2.St} {Wx : WX} {E : Ends} {env : Env} {st : Sto} {ma : M α} {k : α → Sto → SRes}
    (re : REnv K w env σ) (c : Corr K w st) (h : PostS K w Wx E ((ma env st).toS env k)) :
    tG K R Wx ma σ w.H fun v H1 => ∃ mu xi a st1, w.Le ⟨H1, mu, xi⟩ ∧ R ⟨H1, mu, xi⟩ a v ∧ Corr K ⟨H1, mu, xi⟩ st1 ∧ REnv K ⟨H1, mu, xi⟩ env σ ∧ PostS K ⟨H1, mu, xi⟩ Wx E (k a st1) := by
  refine ⟨w.mu, w.xi, env, st, re, c, ?_⟩
  cases e : ma env st with
  | ok a st1 =>
    rw [e] at h
    exact fun w' v l r c' => ⟨w'.mu, w'.xi, a, st1, l, r, c', re.le l, PostS.le h l⟩
  | exc k fs xs st1 =>
    rw [e] at h
    exact fun w' dd l c' x => h w' σ dd l (re.le l) c' x
  | bad =>
    rw [e] at h
    exact h
end
abbrev CS (X : Cx) (Wx : WX) (s : Stmt) (m : MS) : Prop := PS X s (tS X.K Wx m)
abbrev CSs (X : Cx) (Wx : WX) (s : List Stmt) (m : MS) : Prop := PSs X s (tS X.K Wx m)
section
variable {X : Cx} {Wx : WX} {a b c e o : Expr} {es : List Expr} {ma mb mc me : M D} {ms : M (List D)} {pos p2 : Pos} {s : Stmt} {ss s1 s2 : List Stmt} {m n : MS} {t : M Bool}
/-! ### rows of statements -/
def sNil : MS := fun env st => .nx env st
def sSeq (m n : MS) : MS := fun env st => match m env st with
  | .nx e s => n e s
  | r => r
theorem css_nil : CSs X Wx [] sNil := PSs.mono pss_nil fun E σ H h => by
  obtain ⟨mu, xi, env, st, re, c, h⟩ := h
  exact h ⟨H, mu, xi⟩ σ (.refl _) re c
theorem css_cons (h1 : CS X Wx s m) (h2 : CSs X Wx ss n) : CSs X Wx (s :: ss) (sSeq m n) := PSs.mono (pss_cons h1 h2) fun E σ H h => by
  obtain ⟨mu, xi, env, st, re, c, h⟩ := h
  refine ⟨mu, xi, env, st, re, c, ?_⟩
  unfold sSeq at h
  cases e : m env st with
  | nx e1 st1 =>
    rw [e] at h
    exact fun w' σ' l re' c' => ⟨w'.mu, w'.xi, e1, st1, re', c', PostS.le h l⟩
  | _ =>
    rw [e] at h
    exact h
theorem css_one (h1 : CS X Wx s m) : CSs X Wx [s] m := PSs.mono (pss_one h1) fun E σ H h => h
def sNever : MS := fun _ _ => .bad
theorem cs_never : CS X Wx s sNever := PS.mono ps_never fun E σ H h => by
  obtain ⟨mu, xi, env, st, re, c, h⟩ := h
  exact h.elim
theorem css_never : CSs X Wx ss sNever := PSs.mono pss_never fun E σ H h => by
  obtain ⟨mu, xi, env, st, re, c, h⟩ := h
  exact h.elim
theorem cs_pass : CS X Wx (.Pass pos) sNil := PS.mono ps_pass fun E σ H h => by
  obtain ⟨mu, xi, env, st, re, c, h⟩ := h
  exact h ⟨H, mu, xi⟩ σ (.refl _) re c
def sBrk : MS := fun env st => .bk env st
def sCnt : MS := fun env st => .ct env st
theorem cs_break : CS X Wx (.Break pos) sBrk := PS.mono ps_break fun E σ H h => by
  obtain ⟨mu, xi, env, st, re, c, h⟩ := h
  exact h ⟨H, mu, xi⟩ σ (.refl _) re c
theorem cs_continue : CS X Wx (.Continue pos) sCnt := PS.mono ps_continue fun E σ H h => by
  obtain ⟨mu, xi, env, st, re, c, h⟩ := h
  exact h ⟨H, mu, xi⟩ σ (.refl _) re c
/-! ### return, an expression, if -/
def sRet (ma : M D) : MS := fun env st => (ma env st).toS env fun d s1 => .rt d s1
theorem cs_ret (ha : CE X Wx a ma) : CS X Wx (.Return (some a) pos) (sRet ma) := PS.mono (ps_ret ha) fun E σ H h => by
  obtain ⟨mu, xi, env, st, re, c, h⟩ := h
  exact tG_mono (tG_bindS (R := Rel X.K) re c h) fun v H1 ⟨mu1, xi1, d, st1, l1, r1, c1, re1, p1⟩ => p1 ⟨H1, mu1, xi1⟩ v (.refl _) r1 c1
def sRetN : MS := fun _ st => .rt .non st
theorem cs_retN : CS X Wx (.Return none pos) sRetN := PS.mono ps_retN fun E σ H h => by
  obtain ⟨mu, xi, env, st, re, c, h⟩ := h
  exact h ⟨H, mu, xi⟩ _ (.refl _) (by unfold Rel; rfl) c
def sDrop (ma : M D) : MS := fun env st => (ma env st).toS env fun _ s1 => .nx env s1
theorem cs_expr (ha : CE X Wx a ma) (hs : swapsWith a none pos.line X.env = pure false := by rfl) : CS X Wx (.Expr a pos) (sDrop ma) := PS.mono (ps_expr ha hs) fun E σ H h => by
  obtain ⟨mu, xi, env, st, re, c, h⟩ := h
  exact tG_mono (tG_bindS (R := Rel X.K) re c h) fun v H1 ⟨mu1, xi1, d, st1, l1, r1, c1, re1, p1⟩ => p1 ⟨H1, mu1, xi1⟩ σ (.refl _) re1 c1
theorem cs_doc {x j pos pos'} : CS X Wx (.Expr (.Constant (.str x) j pos) pos') sNil := PS.mono ps_doc fun E σ H h => by
  obtain ⟨mu, xi, env, st, re, c, h⟩ := h
  exact h ⟨H, mu, xi⟩ σ (.refl _) re c
def sIf (t : M Bool) (m n : MS) : MS := fun env st => (t env st).toS env fun b s1 => if b = true then m env s1 else n env s1
theorem cs_if (hc : CT X Wx a t) (h1 : CSs X Wx s1 m) (h2 : CSs X Wx s2 n) : CS X Wx (.If a s1 s2 pos) (sIf t m n) := PS.mono (ps_if hc h1 h2) fun E σ H h => by
  obtain ⟨mu, xi, env, st, re, c, h⟩ := h
  refine tG_mono (tG_bindS (R := RB) re c h) fun v H1 ⟨mu1, xi1, d, st1, l1, r1, c1, re1, p1⟩ => ?_
  cases r1
  cases v with
  | true => exact ⟨mu1, xi1, env, st1, re1, c1, p1⟩
  | false => exact ⟨mu1, xi1, env, st1, re1, c1, p1⟩
/-! ### assignments -/
def sSet (i : Nat) (ma : M D) : MS := fun env st => (ma env st).toS env fun d s1 => .nx (env.set i (some d)) s1
theorem cs_set (i : Nat) {x : Str} {pos' : Pos} (ha : CE X Wx a ma) (hN : X.N.Nodup) (hi : X.N[i]? = some x := by rfl) (hx : Loc X.env.scope x := by first | exact Or.inl rfl | exact Or.inr rfl) (hs : swapsWith a (some (.Name x pos')) pos.line X.env = pure false := by rfl)
    (hf : X.fn x = true ∨ X.env.scope.names.lookup x = some .local := by first | exact .inl rfl | exact .inr rfl | assumption) : CS X Wx (.Assign [.Name x pos'] a pos) (sSet i ma) := PS.mono (ps_set hN hi hx ha hs hf) fun E σ H h => by
  obtain ⟨mu, xi, env, st, re, c, h⟩ := h
  exact tG_mono (tG_bindS (R := Rel X.K) re c h) fun v H1 ⟨mu1, xi1, d, st1, l1, r1, c1, re1, p1⟩ => p1 ⟨H1, mu1, xi1⟩ _ (.refl _) (re1.set i r1) c1
/-- targets of names: the slots vs are stored -/
abbrev GD : Type := D → Env → Option Env
def Keeps (vs : List Nat) (σ σ' : L2.St) : Prop := σ'.length = σ.length ∧ ∀ i, i ∉ vs → σ'[i]? = σ[i]?
theorem Keeps.wipe {σ σ' : L2.St} {vs : List Nat} (h : Keeps vs σ σ') : L2.wipe σ' vs = L2.wipe σ vs := by
  refine List.ext_getElem? fun i => ?_
  by_cases hi : i ∈ vs
  · by_cases hl : i < σ.length
    · rw [wipe_at hi (by rw [h.1]; exact hl), wipe_at hi hl]
    · rw [List.getElem?_eq_none (by rw [wipe_length, h.1]; exact Nat.le_of_not_lt hl), List.getElem?_eq_none (by rw [wipe_length]; exact Nat.le_of_not_lt hl)]
  · rw [wipe_off hi, wipe_off hi]
    exact h.2 i hi
where
  wipe_at {σ : L2.St} {i : Nat} : ∀ {vs : List Nat}, i ∈ vs → i < σ.length → (L2.wipe σ vs)[i]? = some none
    | v :: vs, hi, hl => by
      unfold L2.wipe
      by_cases e : v = i
      · subst e
        exact List.getElem?_set_self (by rw [wipe_length]; exact hl)
      · rw [List.getElem?_set_ne e]
        rcases List.mem_cons.mp hi with q | q
        · exact absurd q.symm e
        · exact wipe_at q hl
  wipe_off {σ : L2.St} {i : Nat} : ∀ {vs : List Nat}, i ∉ vs → (L2.wipe σ vs)[i]? = σ[i]?
    | [], _ => rfl
    | v :: vs, hi => by
      unfold L2.wipe
      rw [List.getElem?_set_ne fun e => hi (by rw [e]; exact List.mem_cons_self)]
      exact wipe_off fun q => hi (List.mem_cons_of_mem _ q)
def tGt (K : PySem.W.Frag) (g : GD) (vs : List Nat) : TG := fun v σ H Q => ∃ mu xi env st d env', REnv K ⟨H, mu, xi⟩ env σ ∧ Corr K ⟨H, mu, xi⟩ st ∧ Rel K ⟨H, mu, xi⟩ d v ∧ g d env = some env' ∧ ∀ σ', REnv K ⟨H, mu, xi⟩ env' σ' → Keeps vs σ σ' → Q σ' H
theorem PG.mono {tg : Expr} {t t' : TG} (h : PG X tg t) (i : ∀ v σ H Q, t' v σ H Q → t v σ H Q) : PG X tg t' := ⟨fun pins s σ H v u Q I r q => h.run pins s σ H v u Q I r (i v σ H Q q)⟩
theorem PGs.mono {tg : List Expr} {t t' : TGs} (h : PGs X tg t) (i : ∀ v σ H Q, t' v σ H Q → t v σ H Q) : PGs X tg t' := ⟨fun pins s σ H v u Q I r q => h.run pins s σ H v u Q I r (i v σ H Q q)⟩
abbrev CG (X : Cx) (tg : Expr) (g : GD) (vs : List Nat) : Prop := PG X tg (tGt X.K g vs)
def gNm (i : Nat) : GD := fun d env => some (env.set i (some d))
theorem cg_name (i : Nat) {x : Str} (hN : X.N.Nodup) (hi : X.N[i]? = some x := by rfl) (hx : Loc X.env.scope x := by first | exact Or.inl rfl | exact Or.inr rfl) (hf : X.fn x = true ∨ X.env.scope.names.lookup x = some .local := by first | exact .inl rfl | exact .inr rfl | assumption) : CG X (.Name x pos) (gNm i) [i] :=
  PG.mono (pg_name hN hi hx hf) fun v σ H Q h => by
    obtain ⟨mu, xi, env, st, d, env', re, c, r, e, q⟩ := h
    cases e
    exact q _ (re.set i r) ⟨List.length_set, fun j hj => List.getElem?_set_ne fun e => hj (by rw [e]; exact List.mem_cons_self)⟩
abbrev GDs : Type := List D → Env → Option Env
def tGts (K : PySem.W.Frag) (g : GDs) (us : List Nat) : TGs := fun vs σ H Q => ∃ mu xi env st ds env', REnv K ⟨H, mu, xi⟩ env σ ∧ Corr K ⟨H, mu, xi⟩ st ∧ Rels K ⟨H, mu, xi⟩ ds vs ∧ g ds env = some env' ∧ ∀ σ', REnv K ⟨H, mu, xi⟩ env' σ' → Keeps us σ σ' → Q σ' H
abbrev CGs (X : Cx) (tg : List Expr) (g : GDs) (us : List Nat) : Prop := PGs X tg (tGts X.K g us)
def gsNil : GDs := fun ds env => match ds with
  | [] => some env
  | _ => none
def gsCons (g : GD) (gs : GDs) : GDs := fun ds env => match ds with
  | d :: r => (g d env).bind fun e => gs r e
  | [] => none
theorem cgs_nil : CGs X [] gsNil [] := PGs.mono pgs_nil fun v σ H Q h => by
  obtain ⟨mu, xi, env, st, ds, env', re, c, r, e, q⟩ := h
  cases ds with
  | nil =>
    cases e
    unfold Rels at r
    exact ⟨r, q _ re ⟨rfl, fun _ _ => rfl⟩⟩
  | cons x t => cases e
theorem cgs_cons {g : GD} {gs : GDs} {us vs : List Nat} (h1 : CG X e g us) (h2 : CGs X es gs vs) (hs : (assignEach (e :: es) X.env).map (·.2) = assign e X.env :: (assignEach es X.env).map (·.2) := by rfl) : CGs X (e :: es) (gsCons g gs) (us ++ vs) := PGs.mono (pgs_cons h1 h2 hs) fun v σ H Q h => by
  obtain ⟨mu, xi, env, st, ds, env', re, c, r, e, q⟩ := h
  cases ds with
  | nil => cases e
  | cons x t =>
    obtain ⟨v1, rr, e1, r1, r2⟩ := r.inv
    have e2 : (g x env).bind (fun e => gs t e) = some env' := e
    cases e3 : g x env with
    | none =>
      rw [e3] at e2
      cases e2
    | some env1 =>
      rw [e3] at e2
      exact ⟨v1, rr, e1, mu, xi, env, st, x, env1, re, c, r1, e3, fun σ' re' k1 => ⟨mu, xi, env1, st, t, env', re', c, r2, e2, fun σ'' re'' k2 => q σ'' re'' ⟨k2.1.trans k1.1, fun j hj =>
        (k2.2 j fun z => hj (List.mem_append_right _ z)).trans (k1.2 j fun z => hj (List.mem_append_left _ z))⟩⟩⟩
def gTu (n : Nat) (gs : GDs) : GD := fun d env => match d with
  | .tup xs => if xs.length = n then gs xs env else none
  | _ => none
theorem cg_tup {gs : GDs} {us : List Nat} {k : Nat} {n : Nat} (hc : X.calm = true) (h : CGs X es gs us) (hn : (assignEach es X.env).length = n := by rfl) (hst : (assignEach es X.env).findIdx? (·.1) = none := by rfl) : CG X (.Tuple es k pos) (gTu n gs) us := PG.mono (pg_tup hc h hn hst) fun v σ H Q h => by
  obtain ⟨mu, xi, env, st, d, env', re, c, r, e, q⟩ := h
  cases d with
  | tup xs =>
    have e2 : (if xs.length = n then gs xs env else none) = some env' := e
    by_cases hl : xs.length = n
    · rw [if_pos hl] at e2
      obtain ⟨a1, v1, ea, q1, s1⟩ := seqT_ok (xs := xs) r rfl
      exact ⟨a1, v1, ea, q1, by rw [← s1.length]; exact hl, mu, xi, env, st, xs, env', re, c, s1, e2, q⟩
    · rw [if_neg hl] at e2
      cases e2
  | _ => cases e
def sTgt (ma : M D) (g : GD) : MS := fun env st => (ma env st).toS env fun d s1 => match g d env with
  | some e => .nx e s1
  | none => .bad
theorem cs_tgt {tg : Expr} {g : GD} {us : List Nat} (ha : CE X Wx a ma) (hg : CG X tg g us) (hs : swapsWithSole [tg] a pos.line X.env = pure false := by rfl) (hw : swappedStores [tg] a X.env = pure none := by rfl)
    (h1 : (assignEach [tg] X.env).map (·.2) = [assign tg X.env] := by rfl) : CS X Wx (.Assign [tg] a pos) (sTgt ma g) := PS.mono (ps_asg ha hg hs hw h1) fun E σ H h => by
  obtain ⟨mu, xi, env, st, re, c, h⟩ := h
  refine tG_mono (tG_bindS (R := Rel X.K) re c h) fun v H1 ⟨mu1, xi1, d, st1, l1, r1, c1, re1, p1⟩ => ?_
  cases eg : g d env with
  | none =>
    rw [eg] at p1
    exact p1.elim
  | some env' =>
    rw [eg] at p1
    exact ⟨mu1, xi1, env, st1, d, env', re1, c1, r1, eg, fun σ' re' _ => p1 ⟨H1, mu1, xi1⟩ σ' (.refl _) re' c1⟩
/-- a, b = x, y -/
def sPar (i j : Nat) (ms : M (List D)) : MS := fun env st => (ms env st).toS env fun ds s1 => match ds with
  | [x, y] => .nx ((env.set i (some x)).set j (some y)) s1
  | _ => .bad
theorem cs_par (i j : Nat) {x y : Str} {px py pt : Pos} {kt k2 pt2} (hc : X.calm = true) (hN : X.N.Nodup) (ha : CA X Wx [a, b] ms) (hi : X.N[i]? = some x := by rfl) (hj : X.N[j]? = some y := by rfl) (hij : i ≠ j := by decide)
    (hx : X.env.scope.names.lookup x = some .local := by rfl) (hy : X.env.scope.names.lookup y = some .local := by rfl)
    (hw : swappedStores [.Tuple [.Name x px, .Name y py] kt pt] (.Tuple [a, b] k2 pt2) X.env = pure (some [x, y]) := by rfl) (hxy : (x == y) = false := by decide) : CS X Wx (.Assign [.Tuple [.Name x px, .Name y py] kt pt] (.Tuple [a, b] k2 pt2) pos) (sPar i j ms) := PS.mono (ps_par hc hN hi hj hij hx hy ha hw) fun E σ H h => by
  obtain ⟨mu, xi, env, st, re, c, h⟩ := h
  refine tG_mono (tG_bindS (R := Rels X.K) re c h) fun v H1 ⟨mu1, xi1, d, st1, l1, r1, c1, re1, p1⟩ => ?_
  split at p1
  · obtain ⟨v, u, e, q1, q2⟩ := r1.two
    exact ⟨v, u, e, p1 ⟨H1, mu1, xi1⟩ _ (.refl _) ((re1.set i q1).set j q2) c1⟩
  · exact p1.elim
/-- o[i] = e, a list's item -/
def sSetIx (mo mi me : M D) : MS := fun env st => (me env st).toS env fun z s1 => (mo env s1).toS env fun x s2 => (mi env s2).toS env fun y s3 => match setL x y z s3 with
  | some s4 => .nx env s4
  | none => .bad
theorem cs_setIx {i : Expr} {mo mi : M D} (he : CE X Wx e me) (ho : CE X Wx o mo) (hi : CE X Wx i mi) (hs : swapsWithSole [.Subscript o i p2] e pos.line X.env = pure false := by rfl) (hw : swappedStores [.Subscript o i p2] e X.env = pure none := by rfl)
    (ha : ∀ v, assign (.Subscript o i p2) X.env v = (do
      let ov ← holding [v] (eval o X.env)
      let iv ← holding [v, ov] (eval i X.env)
      standAt p2
      holding [v, ov, iv] (setItem ov iv v)
      release [v, ov, iv] []) := by intro _; rfl) : CS X Wx (.Assign [.Subscript o i p2] e pos) (sSetIx mo mi me) := PS.mono (ps_asg he (pg_sub ho hi set_list ha) hs hw) fun E σ H h => by
  obtain ⟨mu, xi, env, st, re, c, h⟩ := h
  exact tG_mono (tG_bindS (R := Rel X.K) re c h) fun v H1 ⟨mu1, xi1, d, st1, l1, r1, c1, re1, p1⟩ =>
    tG_mono (tG_bindS (R := Rel X.K) re1 c1 p1) fun v2 H2 ⟨mu2, xi2, d2, st2, l2, r2, c2, re2, p2⟩ =>
      tG_mono (tG_bindS (R := Rel X.K) re2 c2 p2) fun v3 H3 ⟨mu3, xi3, d3, st3, l3, r3, c3, re3, p3⟩ => by
        cases es : setL d2 d3 d st3 with
        | none =>
          rw [es] at p3
          exact p3.elim
        | some s4 =>
          rw [es] at p3
          exact setL_ok (w := ⟨H3, mu3, xi3⟩) c3 (r2.le l3) r3 ((r1.le l2).le l3) es fun w' l c' => p3 w' σ l (re3.le l) c'
/-- x op= e -/
def sAug (i : Nat) (g : D2) (me : M D) : MS := fun env st => match env[i]? with
  | some (some x) => (me env st).toS env fun y s1 => (g x y s1).toS env fun z s2 => .nx (env.set i (some z)) s2
  | _ => .bad
theorem cs_aug (i : Nat) {x : Str} {op : Operator} {pos' : Pos} {g : D2} (ho : OpD X Wx (inplaceOp op) g) (he : CE X Wx e me) (hN : X.N.Nodup) (hi : X.N[i]? = some x := by rfl) (hx : Loc X.env.scope x := by first | exact Or.inl rfl | exact Or.inr rfl)
    (hf : X.fn x = true ∨ X.env.scope.names.lookup x = some .local := by first | exact .inl rfl | exact .inr rfl | assumption) : CS X Wx (.AugAssign (.Name x pos') op e pos) (sAug i g me) := by
  refine ⟨fun pins s σ H E I h => ?_⟩
  obtain ⟨mu, xi, env, st, re, c, h⟩ := h
  unfold sAug at h
  split at h
  · rename_i d hd
    obtain ⟨v, e1, rd⟩ := re.2 i d hd
    obtain ⟨m, hn, hl⟩ := I.loc
    have vis : Vis X.env.scope x := by
      rcases hx with k | k
      · exact .inl k
      · exact .inr (.inl k)
    obtain ⟨u, r, l⟩ := hl i x v hi e1 vis
    refine wpAny_AugAssign_Name ?_
    have go : wpAny (model X.prog X.w) X.A (eval e X.env) (fun w s₂ => wpAny (model X.prog X.w) X.A (inplaceOp op u w) (fun r s₃ => wpAny (model X.prog X.w) X.A (storeName X.env x r) (fun _ => SP X pins E .next) X.xe s₃) X.xe s₂) X.xe s := by
      refine thn (he.run pins s σ H _ I (tG_bindS (R := Rel X.K) re c h)) fun w' s1 ⟨y, H1, I1, ry, mu1, xi1, d1, st1, l1, r1, c1, re1, p1⟩ => ?_
      have q : Post X.K (Rel X.K) ⟨H1, mu1, xi1⟩ σ Wx (fun z H2 => ∃ mu2 xi2 d2 st2, Wd.Le ⟨H1, mu1, xi1⟩ ⟨H2, mu2, xi2⟩ ∧ Rel X.K ⟨H2, mu2, xi2⟩ d2 z ∧ Corr X.K ⟨H2, mu2, xi2⟩ st2 ∧ REnv X.K ⟨H2, mu2, xi2⟩ env σ ∧ PostS X.K ⟨H2, mu2, xi2⟩ Wx E (.nx (env.set i (some d2)) st2)) (g d d1 st1) := by
        cases eg : g d d1 st1 with
        | ok a st2 =>
          rw [eg] at p1
          exact fun w' v l r c' => ⟨w'.mu, w'.xi, a, st2, l, r, c', re1.le l, PostS.le p1 l⟩
        | exc k fs xs st2 =>
          rw [eg] at p1
          exact fun w' dd l c' x => p1 w' σ dd l (re1.le l) c' x
        | bad =>
          rw [eg] at p1
          exact p1
      refine thn (ho pins s1 σ ⟨H1, mu1, xi1⟩ st1 d d1 v y u w' _ I1 c1 (rd.le l1) r1 r ry q) fun z s2 ⟨zv, H2, I2, rz, mu2, xi2, d2, st2, l2, r2, c2, re2, p2⟩ => ?_
      exact store_ok I2 hN hi hx rz (fun s3 I3 => ⟨_, H2, I3, p2 ⟨H2, mu2, xi2⟩ _ (.refl _) (re2.set i r2) c2⟩) hf
    rcases l with ⟨hk, hm⟩ | ⟨hk, c, hc, hcell⟩
    · exact wpAny_loadName_local I.ok.kind hk hn hm go
    · rcases hk with hk | hk
      · exact wpAny_loadName_cell I.ok.kind hk hc hcell go
      · rcases hx with k | k
        · have : X.env.scope.names.lookup x = some .free := hk
          rw [k] at this
          cases this
        · have : X.env.scope.names.lookup x = some .free := hk
          rw [k] at this
          cases this
  · exact h.elim

/-! ### while -/
def whileR (t : M Bool) (body : MS) : Nat → MS
  | 0 => fun _ _ => .bad
  | n + 1 => fun env st => (t env st).toS env fun b s1 => if b = true then (match body env s1 with
    | .nx e s => whileR t body n e s
    | .ct e s => whileR t body n e s
    | .bk e s => .nx e s
    | r => r) else .nx env s1
theorem cs_while (k : Nat) (hp : PassesOwn (model X.prog X.w) X.A X.env X.xe) (hc : CT X Wx a t) (hb : CSs X Wx ss m) : CS X Wx (.While a ss [] pos) (whileR t m k) := PS.mono (ps_while hp hc hb) fun E σ H h => by
  obtain ⟨mu, xi, env, st, re, c, h⟩ := h
  refine ⟨fun k σ H => ∃ mu xi env st, REnv X.K ⟨H, mu, xi⟩ env σ ∧ Corr X.K ⟨H, mu, xi⟩ st ∧ PostS X.K ⟨H, mu, xi⟩ Wx E (whileR t m k env st), ⟨k, mu, xi, env, st, re, c, h⟩, ?_⟩
  rintro k σ H ⟨mu, xi, env, st, re, c, h⟩
  cases k with
  | zero => exact h.elim
  | succ k =>
    unfold whileR at h
    refine tG_mono (tG_bindS (R := RB) re c h) fun v H1 ⟨mu1, xi1, d, st1, l1, r1, c1, re1, p1⟩ => ?_
    cases r1
    cases v with
    | false => exact p1 ⟨H1, mu1, xi1⟩ σ (.refl _) re1 c1
    | true =>
      refine ⟨fun σ H => ∃ mu xi env st, REnv X.K ⟨H, mu, xi⟩ env σ ∧ Corr X.K ⟨H, mu, xi⟩ st ∧ PostS X.K ⟨H, mu, xi⟩ Wx E (whileR t m k env st), fun σ' H' q => ⟨k, Nat.lt_succ_self k, q⟩, mu1, xi1, env, st1, re1, c1, ?_⟩
      rw [if_pos rfl] at p1
      cases em : m env st1 with
      | nx e s =>
        rw [em] at p1
        exact fun w' σ' l re' c' => ⟨w'.mu, w'.xi, e, s, re', c', PostS.le p1 l⟩
      | ct e s =>
        rw [em] at p1
        exact fun w' σ' l re' c' => ⟨w'.mu, w'.xi, e, s, re', c', PostS.le p1 l⟩
      | bk e s =>
        rw [em] at p1
        exact p1
      | rt d s =>
        rw [em] at p1
        exact p1
      | exc k fs xs e s =>
        rw [em] at p1
        exact p1
      | bad =>
        rw [em] at p1
        exact p1.elim

/-! ### for -/
structure Src where
  rd : Nat → Sto → Option (Option D)
  n : Nat
def Src.fz (ds : List D) : Src := ⟨fun i _ => some ds[i]?, ds.length⟩
def Src.lv (k n : Nat) : Src := ⟨fun i st => match st[k]? with
  | some (.lst xs) => some xs[i]?
  | _ => none, n⟩
/-- J walks S from the world w₀ on -/
def Wk (K : PySem.W.Frag) (w₀ : Wd) (S : Src) (J : It) : Prop := ∀ (i : Nat) (w : Wd) (st : Sto), w₀.Sub w → Corr K w st →
  (S.rd i st = some none → J.stop i w.H) ∧ ∀ d, S.rd i st = some (some d) → J.go i w.H ∧ ∀ x H', J.yld i w.H x H' → (∀ a o, w.H a = some o → H' a = some o) ∧ Rel K ⟨H', w.mu, w.xi⟩ d x
/-- more objects -/
theorem Corr.more {K : PySem.W.Frag} {w : Wd} {st : Sto} (c : Corr K w st) {H' : Hp} (e : ∀ a o, w.H a = some o → H' a = some o) : w.Le ⟨H', w.mu, w.xi⟩ ∧ Corr K ⟨H', w.mu, w.xi⟩ st := by
  have S : w.Sub ⟨H', w.mu, w.xi⟩ := ⟨fun a o h => by
    obtain ⟨h1, h2, h3⟩ := Wd.fr_some.mp h
    exact Wd.fr_some.mpr ⟨h1, h2, e a o h3⟩, List.prefix_rfl⟩
  refine ⟨⟨S, rfl, fun a ha => ?_⟩, ⟨c.nd, c.len, c.apart, fun a ha => ?_, fun n a o h1 h2 => ?_⟩⟩
  · obtain ⟨u, hu⟩ := c.hid a ha
    exact (e a u hu).trans hu.symm
  · obtain ⟨u, hu⟩ := c.hid a ha
    exact ⟨u, e a u hu⟩
  · obtain ⟨u, hu, r⟩ := c.obj n a o h1 h2
    exact ⟨u, e a u hu, RelO.sub S r⟩
abbrev CI (X : Cx) (Wx : WX) (tg iter : Expr) (mi : M Src) : Prop := PI X tg iter (tG X.K (Wk X.K) Wx mi)
theorem PI.mono {tg iter : Expr} {t t' : TI} (h : PI X tg iter t) (i : ∀ σ H Q, t' σ H Q → t σ H Q) : PI X tg iter t' := ⟨fun pins s σ H Q I q => h.run pins s σ H Q I (i σ H Q q)⟩
def loopR (rd : Nat → Sto → Option (Option D)) (g : GD) (body : MS) : Nat → Nat → MS
  | 0, i => fun env st => match rd i st with
    | some none => .nx env st
    | _ => .bad
  | n + 1, i => fun env st => match rd i st with
    | some none => .nx env st
    | some (some d) => (match g d env with
      | some e1 => (match body e1 st with
        | .nx e s => loopR rd g body n (i + 1) e s
        | .ct e s => loopR rd g body n (i + 1) e s
        | .bk e s => .nx e s
        | r => r)
      | none => .bad)
    | none => .bad
def sFor (mi : M Src) (g : GD) (body : MS) : MS := fun env st => (mi env st).toS env fun S s1 => loopR S.rd g body S.n 0 env s1
theorem cs_for {tg iter : Expr} {mi : M Src} {g : GD} {us : List Nat} (hp : PassesOwn (model X.prog X.w) X.A X.env X.xe) (hc : X.calm = true) (hi : CI X Wx tg iter mi) (hg : CG X tg g us) (hb : CSs X Wx ss m)
    (hs : ∀ x, foldedSetIterable iter X.env x = pure x := by intro _; rfl) : CS X Wx (.For tg iter ss [] pos) (sFor mi g m) := PS.mono (ps_for hp hc hi hg hb hs) fun E σ H h => by
  obtain ⟨mu, xi, env, st, re, c, h⟩ := h
  refine tG_mono (tG_bindS (R := Wk X.K) re c h) fun J H1 ⟨mu1, xi1, S, st1, l1, wk, c1, re1, p1⟩ => ?_
  refine ⟨fun i k σ H => ∃ mu xi env st, Wd.Le ⟨H1, mu1, xi1⟩ ⟨H, mu, xi⟩ ∧ REnv X.K ⟨H, mu, xi⟩ env σ ∧ Corr X.K ⟨H, mu, xi⟩ st ∧ PostS X.K ⟨H, mu, xi⟩ Wx E (loopR S.rd g m k i env st), ⟨S.n, mu1, xi1, env, st1, .refl _, re1, c1, p1⟩, ?_⟩
  rintro i k σ H ⟨mu, xi, env, st, l, re, c, h⟩
  obtain ⟨ws, wg⟩ := wk i ⟨H, mu, xi⟩ st l.sub c
  cases er : S.rd i st with
  | none =>
    cases k with
    | zero =>
      unfold loopR at h
      rw [er] at h
      exact h.elim
    | succ k =>
      unfold loopR at h
      rw [er] at h
      exact h.elim
  | some od =>
    cases od with
    | none =>
      refine .inl ⟨ws er, ?_⟩
      cases k with
      | zero =>
        unfold loopR at h
        rw [er] at h
        exact h ⟨H, mu, xi⟩ σ (.refl _) re c
      | succ k =>
        unfold loopR at h
        rw [er] at h
        exact h ⟨H, mu, xi⟩ σ (.refl _) re c
    | some d =>
      cases k with
      | zero =>
        unfold loopR at h
        rw [er] at h
        exact h.elim
      | succ k =>
        unfold loopR at h
        rw [er] at h
        obtain ⟨g1, g2⟩ := wg d er
        refine .inr ⟨g1, fun σ H => ∃ mu xi env st, Wd.Le ⟨H1, mu1, xi1⟩ ⟨H, mu, xi⟩ ∧ REnv X.K ⟨H, mu, xi⟩ env σ ∧ Corr X.K ⟨H, mu, xi⟩ st ∧ PostS X.K ⟨H, mu, xi⟩ Wx E (loopR S.rd g m k (i + 1) env st), fun σ' H' q => ⟨k, Nat.lt_succ_self k, q⟩, fun x H' y => ?_⟩
        obtain ⟨eh, r2⟩ := g2 x H' y
        obtain ⟨l2, c2⟩ := c.more eh
        dsimp only at h
        cases eg : g d env with
        | none =>
          rw [eg] at h
          exact h.elim
        | some e1 =>
          rw [eg] at h
          dsimp only at h
          refine ⟨mu, xi, env, st, d, e1, re.le l2, c2, r2, eg, fun σ' re' _ => ⟨mu, xi, e1, st, re', c2, ?_⟩⟩
          have h2 := PostS.le h l2
          cases em : m e1 st with
          | nx e s =>
            rw [em] at h2
            exact fun w' σ' l' re' c' => ⟨w'.mu, w'.xi, e, s, (l.trans l2).trans l', re', c', PostS.le h2 l'⟩
          | ct e s =>
            rw [em] at h2
            exact fun w' σ' l' re' c' => ⟨w'.mu, w'.xi, e, s, (l.trans l2).trans l', re', c', PostS.le h2 l'⟩
          | bk e s =>
            rw [em] at h2
            exact h2
          | rt d s =>
            rw [em] at h2
            exact h2
          | exc k fs xs e s =>
            rw [em] at h2
            exact h2
          | bad =>
            rw [em] at h2
            exact h2.elim
end
end ND
end
namespace ND
open PySem L2 PyProof.Rows
/-! ### freezing -/
mutual
def frzD (fs : Nat → Option D) (n0 : Nat) : D → Option D
  | .non => some .non
  | .bl b => some (.bl b)
  | .int i => some (.int i)
  | .str s => some (.str s)
  | .tup xs => (frzDs fs n0 xs).map .tup
  | .lst xs => (frzDs fs n0 xs).map .lst
  | .ref n => if n < n0 then some (.ref n) else fs (n - n0)
  | .ins k f xs => (frzDs fs n0 xs).map (.ins k f)
  | .dK ks xs => (frzDs fs n0 xs).map (.dK ks)
  | .dT ks xs => (frzDs fs n0 xs).map (.dT ks)
  | .glo x => some (.glo x)
  | .ty n => some (.ty n)
  | .ext n => some (.ext n)
  | .exc k f xs => some (.exc k f xs)
def frzDs (fs : Nat → Option D) (n0 : Nat) : List D → Option (List D)
  | [] => some []
  | x :: xs => match frzD fs n0 x, frzDs fs n0 xs with
    | some d, some ds => some (d :: ds)
    | _, _ => none
end
def frzO (fs : Nat → Option D) (n0 : Nat) : SO → Option D
  | .lst xs => (frzDs fs n0 xs).map .lst
  | .ins k f xs => (frzDs fs n0 xs).map (.ins k f)
  | .dK ks xs => (frzDs fs n0 xs).map (.dK ks)
  | .dT ks xs => (frzDs fs n0 xs).map (.dT ks)
def frzSO (fs : Nat → Option D) (n0 : Nat) : SO → Option SO
  | .lst xs => (frzDs fs n0 xs).map .lst
  | .ins k f xs => (frzDs fs n0 xs).map (.ins k f)
  | .dK ks xs => (frzDs fs n0 xs).map (.dK ks)
  | .dT ks xs => (frzDs fs n0 xs).map (.dT ks)
/-- the frozen forms of the objects from n0 on, but of ex's -/
def frzI (st : Sto) (n0 : Nat) (ex : Option Nat) : Nat → Nat → Option D
  | 0 => fun _ => none
  | k + 1 => fun j => if ex = some (n0 + j) then none else (st[n0 + j]?).bind (frzO (frzI st n0 ex k) n0)
abbrev frzA (st : Sto) (n0 : Nat) (ex : Option Nat) : Nat → Option D := frzI st n0 ex 3
open Classical in
noncomputable def mrg1 (fs : Nat → Option D) (n0 : Nat) (o o1 : SO) : Option SO := if o1 = o then some o else frzSO fs n0 o1
noncomputable def mrg (fs : Nat → Option D) (n0 : Nat) : Sto → Sto → Option Sto
  | [], _ => some []
  | _ :: _, [] => none
  | o :: r, o1 :: r1 => match mrg1 fs n0 o o1, mrg fs n0 r r1 with
    | some a, some b => some (a :: b)
    | _, _ => none
/-- back in the caller's store -/
noncomputable def fin (st0 : Sto) (d : D) (st1 : Sto) : Res D :=
  match frzD (frzA st1 st0.length none) st0.length d, mrg (frzA st1 st0.length none) st0.length st0 st1 with
  | some d', some st' => .ok d' st'
  | _, _ => .bad
/-- .. with a list, an instance, a dict that lives on -/
noncomputable def finL (st0 : Sto) (d : D) (st1 : Sto) : Res D := match d with
  | .ref n => if n < st0.length then .bad else match st1[n]? with
    | some o => (match frzSO (frzA st1 st0.length (some n)) st0.length o, mrg (frzA st1 st0.length (some n)) st0.length st0 st1 with
      | some o', some st' => .ok (.ref st0.length) (st' ++ [o'])
      | _, _ => .bad)
    | none => .bad
  | _ => .bad
section
variable {K : PySem.W.Frag}
/-- a world behind a call: the heap as it is, the caller's store -/
structure Tgt (w0 w1 t : Wd) : Prop where
  le : w0.Le w1
  fr : ∀ a o, w1.fr a = some o → t.fr a = some o
  mu : w0.mu <+: t.mu
  H : t.H = w1.H
  xi : t.xi = w0.xi
theorem Tgt.at {w0 w1 t : Wd} (l : Tgt w0 w1 t) {n : Nat} {a : Addr} (hn : n < w0.mu.length) (q : w1.mu[n]? = some a) : t.mu[n]? = some a := by
  obtain ⟨u, hu⟩ := l.le.sub.mu
  obtain ⟨u2, hu2⟩ := l.mu
  rw [← hu, List.getElem?_append_left hn] at q
  rw [← hu2, List.getElem?_append_left hn]
  exact q
theorem Tgt.sub {w0 w1 t : Wd} (l : Tgt w0 w1 t) : w0.Le t := ⟨⟨fun a o h => l.fr a o (l.le.sub.fr a o h), l.mu⟩, l.xi, fun a ha => by
  rw [l.H]
  exact l.le.hid a ha⟩
def FsOk (K : PySem.W.Frag) (w0 w1 t : Wd) (fs : Nat → Option D) : Prop := ∀ (j : Nat) (d : D) (a : Addr), fs j = some d → w1.mu[w0.mu.length + j]? = some a → Rel K t d (.ref a)
mutual
theorem frzD_ok {w0 w1 t : Wd} (l : Tgt w0 w1 t) {fs : Nat → Option D} (hf : FsOk K w0 w1 t fs) : ∀ (d d' : D) (v : V), Rel K w1 d v → frzD fs w0.mu.length d = some d' → Rel K t d' v
  | .non, d', v, r, h => by
    cases h
    exact r
  | .bl b, d', v, r, h => by
    cases h
    exact r
  | .int b, d', v, r, h => by
    cases h
    exact r
  | .str b, d', v, r, h => by
    cases h
    exact r
  | .glo b, d', v, r, h => by
    cases h
    exact r
  | .ty b, d', v, r, h => by
    cases h
    exact r
  | .ext b, d', v, r, h => by
    cases h
    unfold Rel at r ⊢
    obtain ⟨a, e, q⟩ := r
    exact ⟨a, e, ex_l l.fr q⟩
  | .exc b _ _, d', v, r, h => by
    cases h
    exact r
  | .tup xs, d', v, r, h => by
    unfold Rel at r
    obtain ⟨a, vs, e, q, s⟩ := r
    have h2 : (frzDs fs w0.mu.length xs).map D.tup = some d' := h
    cases e2 : frzDs fs w0.mu.length xs with
    | none =>
      rw [e2] at h2
      cases h2
    | some ds =>
      rw [e2] at h2
      cases h2
      unfold Rel
      exact ⟨a, vs, e, l.fr _ _ q, frzDs_ok l hf xs ds vs s e2⟩
  | .lst xs, d', v, r, h => by
    unfold Rel at r
    obtain ⟨a, vs, e, q, s⟩ := r
    have h2 : (frzDs fs w0.mu.length xs).map D.lst = some d' := h
    cases e2 : frzDs fs w0.mu.length xs with
    | none =>
      rw [e2] at h2
      cases h2
    | some ds =>
      rw [e2] at h2
      cases h2
      unfold Rel
      exact ⟨a, vs, e, l.fr _ _ q, frzDs_ok l hf xs ds vs s e2⟩
  | .ref n, d', v, r, h => by
    unfold Rel at r
    obtain ⟨a, e, q⟩ := r
    have h2 : (if n < w0.mu.length then some (D.ref n) else fs (n - w0.mu.length)) = some d' := h
    by_cases hn : n < w0.mu.length
    · rw [if_pos hn] at h2
      cases h2
      unfold Rel
      exact ⟨a, e, l.at hn q⟩
    · rw [if_neg hn] at h2
      subst e
      exact hf _ d' a h2 (by rw [Nat.add_sub_cancel' (Nat.le_of_not_lt hn)]; exact q)
  | .ins k f xs, d', v, r, h => by
    unfold Rel at r
    obtain ⟨a, dx, gs, e, q, s, tt⟩ := r
    have h2 : (frzDs fs w0.mu.length xs).map (D.ins k f) = some d' := h
    cases e2 : frzDs fs w0.mu.length xs with
    | none =>
      rw [e2] at h2
      cases h2
    | some ds =>
      rw [e2] at h2
      cases h2
      unfold Rel
      exact ⟨a, dx, gs, e, l.fr _ _ q, s, frzDs_ok l hf xs ds _ tt e2⟩
  | .dK k xs, d', v, r, h => by
    unfold Rel at r
    obtain ⟨a, gs, e, q, s, tt⟩ := r
    have h2 : (frzDs fs w0.mu.length xs).map (D.dK k) = some d' := h
    cases e2 : frzDs fs w0.mu.length xs with
    | none =>
      rw [e2] at h2
      cases h2
    | some ds =>
      rw [e2] at h2
      cases h2
      unfold Rel
      exact ⟨a, gs, e, l.fr _ _ q, s, frzDs_ok l hf xs ds _ tt e2⟩
  | .dT k xs, d', v, r, h => by
    unfold Rel at r
    obtain ⟨a, gs, e, q, s, tt⟩ := r
    have h2 : (frzDs fs w0.mu.length xs).map (D.dT k) = some d' := h
    cases e2 : frzDs fs w0.mu.length xs with
    | none =>
      rw [e2] at h2
      cases h2
    | some ds =>
      rw [e2] at h2
      cases h2
      unfold Rel
      exact ⟨a, gs, e, l.fr _ _ q, s, frzDs_ok l hf xs ds _ tt e2⟩
theorem frzDs_ok {w0 w1 t : Wd} (l : Tgt w0 w1 t) {fs : Nat → Option D} (hf : FsOk K w0 w1 t fs) : ∀ (d d' : List D) (v : List V), Rels K w1 d v → frzDs fs w0.mu.length d = some d' → Rels K t d' v
  | [], d', v, r, h => by
    cases h
    exact r
  | x :: xs, d', vs, r, h => by
    obtain ⟨v, rr, e, q, s⟩ := r.inv
    subst e
    have h2 : (match frzD fs w0.mu.length x, frzDs fs w0.mu.length xs with
      | some d, some ds => some (d :: ds)
      | _, _ => none) = some d' := h
    split at h2
    · rename_i d ds e1 e2
      cases h2
      exact .cons (frzD_ok l hf x d v q e1) (frzDs_ok l hf xs ds rr s e2)
    · cases h2
end
theorem frzO_ok {w0 w1 t : Wd} (l : Tgt w0 w1 t) {fs : Nat → Option D} (hf : FsOk K w0 w1 t fs) {o : SO} {d : D} {u : HO} {a : Addr} (r : RelO K w1 o u) (ha : t.fr a = some u) (h : frzO fs w0.mu.length o = some d) : Rel K t d (.ref a) := by
  cases o with
  | lst xs =>
    obtain ⟨vs, e, s⟩ := r
    subst e
    have h2 : (frzDs fs w0.mu.length xs).map D.lst = some d := h
    cases e2 : frzDs fs w0.mu.length xs with
    | none =>
      rw [e2] at h2
      cases h2
    | some ds =>
      rw [e2] at h2
      cases h2
      unfold Rel
      exact ⟨a, vs, rfl, ha, frzDs_ok l hf xs ds vs s e2⟩
  | ins k f xs =>
    obtain ⟨dx, gs, e, s, tt⟩ := r
    subst e
    have h2 : (frzDs fs w0.mu.length xs).map (D.ins k f) = some d := h
    cases e2 : frzDs fs w0.mu.length xs with
    | none =>
      rw [e2] at h2
      cases h2
    | some ds =>
      rw [e2] at h2
      cases h2
      unfold Rel
      exact ⟨a, dx, gs, rfl, ha, s, frzDs_ok l hf xs ds _ tt e2⟩
  | dK k xs =>
    obtain ⟨gs, e, s, tt⟩ := r
    subst e
    have h2 : (frzDs fs w0.mu.length xs).map (D.dK k) = some d := h
    cases e2 : frzDs fs w0.mu.length xs with
    | none =>
      rw [e2] at h2
      cases h2
    | some ds =>
      rw [e2] at h2
      cases h2
      unfold Rel
      exact ⟨a, gs, rfl, ha, s, frzDs_ok l hf xs ds _ tt e2⟩
  | dT k xs =>
    obtain ⟨gs, e, s, tt⟩ := r
    subst e
    have h2 : (frzDs fs w0.mu.length xs).map (D.dT k) = some d := h
    cases e2 : frzDs fs w0.mu.length xs with
    | none =>
      rw [e2] at h2
      cases h2
    | some ds =>
      rw [e2] at h2
      cases h2
      unfold Rel
      exact ⟨a, gs, rfl, ha, s, frzDs_ok l hf xs ds _ tt e2⟩
theorem frzSO_ok {w0 w1 t : Wd} (l : Tgt w0 w1 t) {fs : Nat → Option D} (hf : FsOk K w0 w1 t fs) {o o' : SO} {u : HO} (r : RelO K w1 o u) (h : frzSO fs w0.mu.length o = some o') : RelO K t o' u := by
  cases o with
  | lst xs =>
    obtain ⟨vs, e, s⟩ := r
    have h2 : (frzDs fs w0.mu.length xs).map SO.lst = some o' := h
    cases e2 : frzDs fs w0.mu.length xs with
    | none =>
      rw [e2] at h2
      cases h2
    | some ds =>
      rw [e2] at h2
      cases h2
      exact ⟨vs, e, frzDs_ok l hf xs ds vs s e2⟩
  | ins k f xs =>
    obtain ⟨dx, gs, e, s, tt⟩ := r
    have h2 : (frzDs fs w0.mu.length xs).map (SO.ins k f) = some o' := h
    cases e2 : frzDs fs w0.mu.length xs with
    | none =>
      rw [e2] at h2
      cases h2
    | some ds =>
      rw [e2] at h2
      cases h2
      exact ⟨dx, gs, e, s, frzDs_ok l hf xs ds _ tt e2⟩
  | dK k xs =>
    obtain ⟨gs, e, s, tt⟩ := r
    have h2 : (frzDs fs w0.mu.length xs).map (SO.dK k) = some o' := h
    cases e2 : frzDs fs w0.mu.length xs with
    | none =>
      rw [e2] at h2
      cases h2
    | some ds =>
      rw [e2] at h2
      cases h2
      exact ⟨gs, e, s, frzDs_ok l hf xs ds _ tt e2⟩
  | dT k xs =>
    obtain ⟨gs, e, s, tt⟩ := r
    have h2 : (frzDs fs w0.mu.length xs).map (SO.dT k) = some o' := h
    cases e2 : frzDs fs w0.mu.length xs with
    | none =>
      rw [e2] at h2
      cases h2
    | some ds =>
      rw [e2] at h2
      cases h2
      exact ⟨gs, e, s, frzDs_ok l hf xs ds _ tt e2⟩
theorem frzI_ok {w0 w1 t : Wd} {st1 : Sto} {ex : Option Nat} (l : Tgt w0 w1 t) (c : Corr K w1 st1) (hat : ∀ (n : Nat) (a : Addr) (u : HO), ¬ n < w0.mu.length → ex ≠ some n → w1.mu[n]? = some a → w1.H a = some u → t.fr a = some u) : ∀ k : Nat, FsOk K w0 w1 t (frzI st1 w0.mu.length ex k)
  | 0 => fun j d a h _ => by
    unfold frzI at h
    cases h
  | k + 1 => fun j d a h ha => by
    unfold frzI at h
    split at h
    · cases h
    · rename_i hex
      cases e : st1[w0.mu.length + j]? with
      | none =>
        rw [e] at h
        cases h
      | some o =>
        rw [e] at h
        obtain ⟨u, hu, r⟩ := c.obj _ a o ha e
        exact frzO_ok l (frzI_ok l c hat k) r (hat _ a u (by omega) hex ha hu) h
/-! what was known in the caller's world holds behind -/
mutual
theorem Rel.below {w0 w1 t : Wd} (l : Tgt w0 w1 t) : ∀ (d : D) (v0 v : V), Rel K w0 d v0 → Rel K w1 d v → Rel K t d v
  | .non, _, _, _, r => r
  | .bl _, _, _, _, r => r
  | .int _, _, _, _, r => r
  | .str _, _, _, _, r => r
  | .glo _, _, _, _, r => r
  | .ty _, _, _, _, r => r
  | .ext _, _, _, _, r => by
    unfold Rel at r ⊢
    obtain ⟨a, e, q⟩ := r
    exact ⟨a, e, ex_l l.fr q⟩
  | .exc _ _ _, _, _, _, r => r
  | .tup xs, v0, v, r0, r => by
    unfold Rel at r0 r ⊢
    obtain ⟨a0, vs0, e0, q0, s0⟩ := r0
    obtain ⟨a, vs, e, q, s⟩ := r
    exact ⟨a, vs, e, l.fr _ _ q, Rels.below l xs vs0 vs s0 s⟩
  | .lst xs, v0, v, r0, r => by
    unfold Rel at r0 r ⊢
    obtain ⟨a0, vs0, e0, q0, s0⟩ := r0
    obtain ⟨a, vs, e, q, s⟩ := r
    exact ⟨a, vs, e, l.fr _ _ q, Rels.below l xs vs0 vs s0 s⟩
  | .ref n, v0, v, r0, r => by
    unfold Rel at r0 r ⊢
    obtain ⟨a0, e0, q0⟩ := r0
    obtain ⟨a, e, q⟩ := r
    exact ⟨a, e, l.at (List.getElem?_eq_some_iff.mp q0).1 q⟩
  | .ins k f xs, v0, v, r0, r => by
    unfold Rel at r0 r ⊢
    obtain ⟨a0, dx0, gs0, e0, q0, s0, t0⟩ := r0
    obtain ⟨a, dx, gs, e, q, s, tt⟩ := r
    exact ⟨a, dx, gs, e, l.fr _ _ q, s, Rels.below l xs _ _ t0 tt⟩
  | .dK k xs, v0, v, r0, r => by
    unfold Rel at r0 r ⊢
    obtain ⟨a0, gs0, e0, q0, s0, t0⟩ := r0
    obtain ⟨a, gs, e, q, s, tt⟩ := r
    exact ⟨a, gs, e, l.fr _ _ q, s, Rels.below l xs _ _ t0 tt⟩
  | .dT k xs, v0, v, r0, r => by
    unfold Rel at r0 r ⊢
    obtain ⟨a0, gs0, e0, q0, s0, t0⟩ := r0
    obtain ⟨a, gs, e, q, s, tt⟩ := r
    exact ⟨a, gs, e, l.fr _ _ q, s, Rels.below l xs _ _ t0 tt⟩
theorem Rels.below {w0 w1 t : Wd} (l : Tgt w0 w1 t) : ∀ (d : List D) (v0 v : List V), Rels K w0 d v0 → Rels K w1 d v → Rels K t d v
  | [], _, _, _, r => r
  | x :: xs, v0, v, r0, r => by
    obtain ⟨u0, rr0, e0, q0, s0⟩ := r0.inv
    obtain ⟨u, rr, e, q, s⟩ := r.inv
    subst e
    exact .cons (Rel.below l x u0 u q0 q) (Rels.below l xs rr0 rr s0 s)
end
theorem RelO.below {w0 w1 t : Wd} (l : Tgt w0 w1 t) {o : SO} {u0 u : HO} (r0 : RelO K w0 o u0) (r : RelO K w1 o u) : RelO K t o u := by
  cases o with
  | lst xs =>
    obtain ⟨vs0, e0, s0⟩ := r0
    obtain ⟨vs, e, s⟩ := r
    exact ⟨vs, e, Rels.below l xs _ _ s0 s⟩
  | ins k f xs =>
    obtain ⟨dx0, gs0, e0, s0, t0⟩ := r0
    obtain ⟨dx, gs, e, s, tt⟩ := r
    exact ⟨dx, gs, e, s, Rels.below l xs _ _ t0 tt⟩
  | dK k xs =>
    obtain ⟨gs0, e0, s0, t0⟩ := r0
    obtain ⟨gs, e, s, tt⟩ := r
    exact ⟨gs, e, s, Rels.below l xs _ _ t0 tt⟩
  | dT k xs =>
    obtain ⟨gs0, e0, s0, t0⟩ := r0
    obtain ⟨gs, e, s, tt⟩ := r
    exact ⟨gs, e, s, Rels.below l xs _ _ t0 tt⟩
theorem mrg_len {fs : Nat → Option D} {n0 : Nat} : ∀ {st0 st1 st' : Sto}, mrg fs n0 st0 st1 = some st' → st'.length = st0.length
  | [], _, _, h => by
    cases h
    rfl
  | _ :: _, [], _, h => by cases h
  | o :: r, o1 :: r1, st', h => by
    unfold mrg at h
    split at h
    · rename_i a b e1 e2
      cases h
      show b.length + 1 = r.length + 1
      rw [mrg_len e2]
    · cases h
theorem mrg_at {fs : Nat → Option D} {n0 : Nat} : ∀ {st0 st1 st' : Sto} {n : Nat} {o' : SO}, mrg fs n0 st0 st1 = some st' → st'[n]? = some o' → ∃ o o1, st0[n]? = some o ∧ st1[n]? = some o1 ∧ mrg1 fs n0 o o1 = some o'
  | [], _, _, _, _, h, e => by
    cases h
    simp at e
  | _ :: _, [], _, _, _, h, _ => by cases h
  | o :: r, o1 :: r1, st', n, o', h, e => by
    unfold mrg at h
    split at h
    · rename_i a b e1 e2
      cases h
      cases n with
      | zero =>
        have e3 : a = o' := by simpa using e
        subst e3
        exact ⟨o, o1, rfl, rfl, e1⟩
      | succ n => simpa using mrg_at (n := n) e2 (by simpa using e)
    · cases h
theorem mrg_corr {w0 w1 t : Wd} {st0 st1 st' : Sto} {fs : Nat → Option D} (l : Tgt w0 w1 t) (c0 : Corr K w0 st0) (c1 : Corr K w1 st1) (hf : FsOk K w0 w1 t fs) (h : mrg fs w0.mu.length st0 st1 = some st') {n : Nat} {a : Addr} {o' : SO} (hn : w0.mu[n]? = some a) (ho : st'[n]? = some o') :
    ∃ u, t.H a = some u ∧ RelO K t o' u := by
  obtain ⟨o, o1, e0, e1, em⟩ := mrg_at h ho
  have hn1 : w1.mu[n]? = some a := by
    obtain ⟨t, ht⟩ := l.le.sub.mu
    rw [← ht, List.getElem?_append_left (List.getElem?_eq_some_iff.mp hn).1]
    exact hn
  obtain ⟨u0, hu0, r0⟩ := c0.obj n a o hn e0
  obtain ⟨u1, hu1, r1⟩ := c1.obj n a o1 hn1 e1
  refine ⟨u1, by rw [l.H]; exact hu1, ?_⟩
  unfold mrg1 at em
  split at em
  · rename_i eo
    cases em
    subst eo
    exact RelO.below l r0 r1
  · exact frzSO_ok l hf r1 em
theorem hid_of {w0 w1 t : Wd} {st0 : Sto} (l : Tgt w0 w1 t) (c0 : Corr K w0 st0) : ∀ a ∈ t.xi, ∃ u, t.H a = some u := fun a ha => by
  rw [l.xi] at ha
  obtain ⟨u, e⟩ := c0.hid a ha
  exact ⟨u, by rw [l.H, l.le.hid a ha]; exact e⟩
theorem nd_other {w1 : Wd} {st1 : Sto} (c : Corr K w1 st1) {n m : Nat} {a : Addr} (h : w1.mu[n]? = some a) (h' : w1.mu[m]? = some a) : n = m := by
  obtain ⟨l1, e1⟩ := List.getElem?_eq_some_iff.mp h
  obtain ⟨l2, e2⟩ := List.getElem?_eq_some_iff.mp h'
  exact (List.getElem_inj c.nd).mp (e1.trans e2.symm)
theorem lift_mu {w0 w1 : Wd} (l : w0.Le w1) {n : Nat} {a : Addr} (hn : w0.mu[n]? = some a) : w1.mu[n]? = some a := by
  obtain ⟨t, ht⟩ := l.sub.mu
  rw [← ht, List.getElem?_append_left (List.getElem?_eq_some_iff.mp hn).1]
  exact hn
def Wd.back (w0 w1 : Wd) : Wd := ⟨w1.H, w0.mu, w0.xi⟩
theorem back_tgt {w0 w1 : Wd} (l : w0.Le w1) : Tgt w0 w1 (w0.back w1) := ⟨l, fun a o h => by
  obtain ⟨h1, h2, h3⟩ := Wd.fr_some.mp h
  refine Wd.fr_some.mpr ⟨fun q => h1 ?_, fun q => h2 (by rw [l.xi]; exact q), h3⟩
  obtain ⟨t, ht⟩ := l.sub.mu
  rw [← ht]
  exact List.mem_append_left _ q, List.prefix_rfl, rfl, rfl⟩
theorem fin_ok {w0 w1 : Wd} {st0 st1 st' : Sto} {d d' : D} {v : V} (l : w0.Le w1) (c0 : Corr K w0 st0) (c1 : Corr K w1 st1) (r : Rel K w1 d v) (h : fin st0 d st1 = .ok d' st') : w0.Le (w0.back w1) ∧ Corr K (w0.back w1) st' ∧ Rel K (w0.back w1) d' v := by
  have T := back_tgt l
  unfold fin at h
  rw [c0.len] at h
  have hf : FsOk K w0 w1 (w0.back w1) (frzA st1 w0.mu.length none) := frzI_ok T c1 (fun n a u hn _ hm hu => by
    refine Wd.fr_some.mpr ⟨fun q => ?_, fun q => c1.apart a (List.mem_of_getElem? hm) (by rw [l.xi]; exact q), hu⟩
    obtain ⟨i, hi⟩ := List.getElem?_of_mem q
    have hi' : w0.mu[i]? = some a := hi
    have := nd_other c1 hm (lift_mu l hi')
    have := (List.getElem?_eq_some_iff.mp hi').1
    omega) 3
  split at h
  · rename_i d2 st2 e1 e2
    cases h
    refine ⟨T.sub, ⟨c0.nd, (mrg_len e2).trans c0.len, c0.apart, hid_of T c0, fun n a o' hn ho => mrg_corr T c0 c1 hf e2 hn ho⟩, frzD_ok T hf d d' v r e1⟩
  · cases h
theorem finL_ok {w0 w1 : Wd} {st0 st1 st' : Sto} {d d' : D} {v : V} (l : w0.Le w1) (c0 : Corr K w0 st0) (c1 : Corr K w1 st1) (r : Rel K w1 d v) (h : finL st0 d st1 = .ok d' st') :
    ∃ w' : Wd, w'.H = w1.H ∧ w0.Le w' ∧ Corr K w' st' ∧ Rel K w' d' v := by
  unfold finL at h
  rw [c0.len] at h
  split at h
  · rename_i n
    split at h
    · cases h
    · rename_i hn
      split at h
      · rename_i o ho
        unfold Rel at r
        obtain ⟨a, e, hm⟩ := r
        subst e
        obtain ⟨u, hu, ro⟩ := c1.obj n a o hm ho
        have hna : a ∉ w0.mu := fun q => by
          obtain ⟨i, hi⟩ := List.getElem?_of_mem q
          have := nd_other c1 hm (lift_mu l hi)
          have := (List.getElem?_eq_some_iff.mp hi).1
          omega
        have T : Tgt w0 w1 ⟨w1.H, w0.mu ++ [a], w0.xi⟩ := ⟨l, fun b o h => by
          obtain ⟨h1, h2, h3⟩ := Wd.fr_some.mp h
          refine Wd.fr_some.mpr ⟨fun q => ?_, fun q => h2 (by rw [l.xi]; exact q), h3⟩
          rcases List.mem_append.mp q with q | q
          · obtain ⟨t, ht⟩ := l.sub.mu
            exact h1 (by rw [← ht]; exact List.mem_append_left _ q)
          · rw [List.mem_singleton.mp q] at h1
            exact h1 (List.mem_of_getElem? hm), List.prefix_append _ _, rfl, rfl⟩
        have hf : FsOk K w0 w1 ⟨w1.H, w0.mu ++ [a], w0.xi⟩ (frzA st1 w0.mu.length (some n)) := frzI_ok T c1 (fun m b u hmn hex hmb hub => by
          refine Wd.fr_some.mpr ⟨fun q => ?_, fun q => c1.apart b (List.mem_of_getElem? hmb) (by rw [l.xi]; exact q), hub⟩
          rcases List.mem_append.mp q with q | q
          · obtain ⟨i, hi⟩ := List.getElem?_of_mem q
            have := nd_other c1 hmb (lift_mu l hi)
            have := (List.getElem?_eq_some_iff.mp hi).1
            omega
          · rw [List.mem_singleton.mp q] at hmb
            exact hex (congrArg some (nd_other c1 hm hmb))) 3
        split at h
        · rename_i o' st2 e1 e2
          cases h
          have hl2 : st2.length = w0.mu.length := (mrg_len e2).trans c0.len
          refine ⟨⟨w1.H, w0.mu ++ [a], w0.xi⟩, rfl, T.sub, ⟨?_, ?_, fun b hb => ?_, hid_of T c0, fun k b x hk hx => ?_⟩, ?_⟩
          · show (w0.mu ++ [a]).Nodup
            rw [List.nodup_append]
            refine ⟨c0.nd, List.pairwise_singleton _ _, fun x hx y hy e => ?_⟩
            rw [List.mem_singleton.mp hy] at e
            exact hna (by rw [← e]; exact hx)
          · show (st2 ++ [o']).length = (w0.mu ++ [a]).length
            rw [List.length_append, List.length_append, hl2]
            rfl
          · rcases List.mem_append.mp hb with hb | hb
            · exact c0.apart b hb
            · rw [List.mem_singleton.mp hb]
              exact fun q => c1.apart a (List.mem_of_getElem? hm) (by rw [l.xi]; exact q)
          · have hk' : (w0.mu ++ [a])[k]? = some b := hk
            by_cases hlt : k < w0.mu.length
            · rw [List.getElem?_append_left hlt] at hk'
              rw [List.getElem?_append_left (by omega)] at hx
              exact mrg_corr T c0 c1 hf e2 hk' hx
            · have hke : k = w0.mu.length := by
                have := (List.getElem?_eq_some_iff.mp hk').1
                rw [List.length_append] at this
                simp only [List.length_cons, List.length_nil] at this
                omega
              subst hke
              have e1' : a = b := by simpa using hk'
              subst e1'
              have e2' : o' = x := by
                rw [← hl2] at hx
                simpa using hx
              subst e2'
              exact ⟨u, hu, frzSO_ok T hf ro e1⟩
          · unfold Rel
            exact ⟨a, rfl, by simp⟩
        · cases h
      · cases h
  · cases h
end
end ND
noncomputable section
namespace ND
open PySem L2 PyProof.Rows
/-! ### a def's promise, by a function on data -/
def spM (K : PySem.W.Frag) (F : DF) : Sp := fun vs H Q E => ∃ mu xi ds st, Rels K ⟨H, mu, xi⟩ ds vs ∧ Corr K ⟨H, mu, xi⟩ st ∧ Post K (Rel K) ⟨H, mu, xi⟩ [] (fun c d _ H' => E c d H') Q (F ds st)
structure FnD (P : Program) (w : World) (K : PySem.W.Frag) (mg : Str → Option Value) (base : Heap) (lv : Nat) (f : Addr) (F : DF) : Prop where
  ex : FnR P w K mg base (L2.CX P w) lv f (spM K F)
  kp : PySem.W.keepIn K (.ref f) = true
/-- an exception's fields, for the caller -/
noncomputable def excEnd (st : Sto) (k : String) (fs : List String) (xs : List D) (s : Sto) : Res D := match fin st (.lst xs) s with
  | .ok (.lst ys) s' => .exc k fs ys s'
  | _ => .bad
/-- what a frame hands back -/
noncomputable def fnEnd (lv : Bool) (st : Sto) : SRes → Res D
  | .nx _ s => fin st .non s
  | .rt d s => if lv = true then finL st d s else fin st d s
  | .exc k fs xs _ s => excEnd st k fs xs s
  | _ => .bad
/-- a def of n parameters, N names -/
noncomputable def fn (n N : Nat) (lv : Bool) (body : MS) : DF := fun ds st => if ds.length = n then fnEnd lv st (body (ds.map some ++ List.replicate (N - n) none) st) else .bad
section
variable {K : PySem.W.Frag}
theorem REnv.start {w : Wd} {N : List Str} : ∀ {ds : List D} {vs : List V}, Rels K w ds vs → REnv K w (ds.map some ++ List.replicate (N.length - ds.length) none) (L2.start N vs) := fun {ds vs} r => by
  have hl := r.length
  unfold L2.start
  refine ⟨by simp [hl], fun i d h => ?_⟩
  by_cases hi : i < ds.length
  · rw [List.getElem?_append_left (by simpa using hi), List.getElem?_map] at h
    cases e : ds[i]? with
    | none =>
      rw [e] at h
      cases h
    | some x =>
      rw [e] at h
      cases h
      obtain ⟨v, hv, rv⟩ := r.get e
      refine ⟨v, ?_, rv⟩
      rw [List.getElem?_append_left (by simp; omega), List.getElem?_map, hv]
      rfl
  · rw [List.getElem?_append_right (by simpa using Nat.le_of_not_lt hi), List.getElem?_replicate] at h
    split at h <;> cases h
theorem excEnd_ok {w0 w' : Wd} {st0 s : Sto} {k : String} {fs : List String} {xs : List D} {Q : VK} {Wx : WX} {σ : L2.St} {dd : Option Addr} (c0 : Corr K w0 st0) (l : w0.Le w') (c : Corr K w' s) (x : XRel K w' fs xs dd) (h2 : Post K (Rel K) w0 σ Wx Q (excEnd st0 k fs xs s)) :
    Wx (.ref (gaS K k)) dd σ w'.H := by
  unfold excEnd fin at h2
  rw [c0.len] at h2
  have T := back_tgt l
  have hf : FsOk K w0 w' (w0.back w') (frzA s w0.mu.length none) := frzI_ok T c (fun n a u hn _ hm hu => by
    refine Wd.fr_some.mpr ⟨fun q => ?_, fun q => c.apart a (List.mem_of_getElem? hm) (by rw [l.xi]; exact q), hu⟩
    obtain ⟨i, hi⟩ := List.getElem?_of_mem q
    have hi' : w0.mu[i]? = some a := hi
    have := nd_other c hm (lift_mu l hi')
    have := (List.getElem?_eq_some_iff.mp hi').1
    omega) 3
  cases e1 : frzD (frzA s w0.mu.length none) w0.mu.length (.lst xs) with
  | none =>
    rw [e1] at h2
    exact h2.elim
  | some d2 =>
    rw [e1] at h2
    cases e2 : mrg (frzA s w0.mu.length none) w0.mu.length st0 s with
    | none =>
      rw [e2] at h2
      exact h2.elim
    | some st2 =>
      rw [e2] at h2
      have e3 : (frzDs (frzA s w0.mu.length none) w0.mu.length xs).map D.lst = some d2 := e1
      cases e4 : frzDs (frzA s w0.mu.length none) w0.mu.length xs with
      | none =>
        rw [e4] at e3
        cases e3
      | some ys =>
        rw [e4] at e3
        cases e3
        refine h2 (w0.back w') dd T.sub ⟨c0.nd, (mrg_len e2).trans c0.len, c0.apart, hid_of T c0, fun n a o' hn ho => mrg_corr T c0 c hf e2 hn ho⟩ ?_
        rcases x with ⟨x1, x2, x3⟩ | ⟨d, gs, x1, x2, x3, x4⟩
        · subst x2
          cases e4
          exact .inl ⟨x1, rfl, x3⟩
        · exact .inr ⟨d, gs, x1, T.fr _ _ x2, x3, frzDs_ok T hf xs ys _ x4 e4⟩
/-- the end of a frame, for the caller -/
theorem fnEnd_ok {w0 : Wd} {st0 : Sto} {lv : Bool} {r : SRes} {Q : VK} {E : XK} {σ : L2.St} (c0 : Corr K w0 st0) (h : Post K (Rel K) w0 σ (fun c d _ H' => E c d H') Q (fnEnd lv st0 r)) :
    PostS K w0 (fun c d _ H' => E c d H') { nx := fun _ H' => Q .non H', rt := Q } r := by
  cases r with
  | nx e s =>
    intro w' σ' l re c
    have h2 : Post K (Rel K) w0 σ (fun c d _ H' => E c d H') Q (fin st0 .non s) := h
    cases ef : fin st0 .non s with
    | ok d st' =>
      rw [ef] at h2
      obtain ⟨l2, c2, r2⟩ := fin_ok l c0 c (v := .non) (by unfold Rel; rfl) ef
      exact h2 (w0.back w') _ l2 r2 c2
    | exc k fs xs st' =>
      unfold fin at ef
      split at ef <;> cases ef
    | bad =>
      rw [ef] at h2
      exact h2.elim
  | rt d s =>
    intro w' v l rd c
    have h2 : Post K (Rel K) w0 σ (fun c d _ H' => E c d H') Q (if lv = true then finL st0 d s else fin st0 d s) := h
    cases lv with
    | false =>
      rw [if_neg Bool.false_ne_true] at h2
      cases ef : fin st0 d s with
      | ok d' st' =>
        rw [ef] at h2
        obtain ⟨l2, c2, r2⟩ := fin_ok l c0 c rd ef
        exact h2 (w0.back w') _ l2 r2 c2
      | exc k fs xs st' =>
        unfold fin at ef
        split at ef <;> cases ef
      | bad =>
        rw [ef] at h2
        exact h2.elim
    | true =>
      rw [if_pos rfl] at h2
      cases ef : finL st0 d s with
      | ok d' st' =>
        rw [ef] at h2
        obtain ⟨w2, e2, l2, c2, r2⟩ := finL_ok l c0 c rd ef
        have := h2 w2 v l2 r2 c2
        rw [e2] at this
        exact this
      | exc k fs xs st' =>
        unfold finL at ef
        repeat (first | cases ef | split at ef)
      | bad =>
        rw [ef] at h2
        exact h2.elim
  | bk e s => exact h.elim
  | ct e s => exact h.elim
  | bad => exact h.elim
  | exc k fs xs e s =>
    intro w' σ' dd l re c x
    exact excEnd_ok c0 l c x h
/-- a wish without slots -/
abbrev WXe (E : XK) : WX := fun c d _ H => E c d H
theorem fnok_of {P : Program} {w : World} {mg : Str → Option Value} {base : Heap} {k : Nat} {x qual : Str} {params : Arguments} {body : List Stmt} {scope : Scope} {dvs : List V} {kws : List (Str × V)} {f : Addr} {fd : FuncData} {N ps : List Str} {lv : Bool} {m : MS}
    (F : FunD K x qual params body scope dvs kws f fd) (S : FnScope N ps scope) (hb : Binds K fd ps [])
    (hbody : ∀ (cdv : Value) (A : Around) (outer : List PySem.Env) (s : Shared) (H : Hp) (E : XK), Room k (A.deeper (envOfC qual scope s.heap.objs.size f cdv)) → Takes (cxOf (L2.CX P w) P w K mg base N qual scope f cdv A outer s H E) (WXe E) →
      PassesOwn (model P w) (A.deeper (envOfC qual scope s.heap.objs.size f cdv)) (envOfC qual scope s.heap.objs.size f cdv) (cxOf (L2.CX P w) P w K mg base N qual scope f cdv A outer s H E).xe →
      CSs (cxOf (L2.CX P w) P w K mg base N qual scope f cdv A outer s H E) (WXe E) body m) : FnOk P w K mg base (L2.CX P w) (k + 1) f fd ps (spM K (fn ps.length N.length lv m)) := by
  refine F.ok S (fun vs H Q E h => ?_) (fun cdv A outer s H vs Q E hr h => ?_)
  · obtain ⟨mu, xi, ds, st, r, c, h⟩ := h
    unfold fn at h
    split at h
    · rename_i hl
      rw [← r.length]
      exact hl
    · exact h.elim
  · obtain ⟨mu, xi, ds, st, r, c, h⟩ := h
    unfold fn at h
    split at h
    · rename_i hl
      have tk : Takes (cxOf (L2.CX P w) P w K mg base N qual scope f cdv A outer s H E) (WXe E) := takes_of (X := cxOf (L2.CX P w) P w K mg base N qual scope f cdv A outer s H E) rfl rfl rfl rfl
      have hp : PassesOwn (model P w) (A.deeper (envOfC qual scope s.heap.objs.size f cdv)) (envOfC qual scope s.heap.objs.size f cdv) (cxOf (L2.CX P w) P w K mg base N qual scope f cdv A outer s H E).xe := passes_of (X := cxOf (L2.CX P w) P w K mg base N qual scope f cdv A outer s H E) rfl
      refine ⟨_, hbody cdv A outer s H E hr tk hp, mu, xi, _, st, REnv.start r, c, ?_⟩
      rw [← hl] at h
      exact fnEnd_ok c h
    · exact h.elim
theorem fnd_of {P : Program} {w : World} {mg : Str → Option Value} {base : Heap} {k : Nat} {x qual : Str} {params : Arguments} {body : List Stmt} {scope : Scope} {dvs : List V} {kws : List (Str × V)} {f : Addr} {fd : FuncData} {N ps : List Str} {lv : Bool} {m : MS}
    (F : FunD K x qual params body scope dvs kws f fd) (S : FnScope N ps scope) (hb : Binds K fd ps [])
    (hbody : ∀ (cdv : Value) (A : Around) (outer : List PySem.Env) (s : Shared) (H : Hp) (E : XK), Room k (A.deeper (envOfC qual scope s.heap.objs.size f cdv)) → Takes (cxOf (L2.CX P w) P w K mg base N qual scope f cdv A outer s H E) (WXe E) →
      PassesOwn (model P w) (A.deeper (envOfC qual scope s.heap.objs.size f cdv)) (envOfC qual scope s.heap.objs.size f cdv) (cxOf (L2.CX P w) P w K mg base N qual scope f cdv A outer s H E).xe →
      CSs (cxOf (L2.CX P w) P w K mg base N qual scope f cdv A outer s H E) (WXe E) body m) : FnD P w K mg base (k + 1) f (fn ps.length N.length lv m) := by
  have ok : FnOk P w K mg base (L2.CX P w) (k + 1) f fd ps (spM K (fn ps.length N.length lv m)) := fnok_of F S hb hbody
  refine ⟨fun A outer s H us vs Q E hr e0 r h => ?_, F.kp⟩
  have hl : us.length = ps.length := by rw [← r.length]; exact ok.len _ _ _ _ h
  have b := hb s us (e0.mod.kin.keeps fun b o e => (e0.bs b o e).1) (by rw [List.append_nil]; exact hl)
  rw [List.append_nil] at b
  exact ok.run A outer s H ⟨us, []⟩ us vs Q E hr e0 b r h
end
section
variable {X : Cx} {Wx : WX} {a b c e o : Expr} {es : List Expr} {ma mb mc me mo : M D} {ms : M (List D)} {pos p2 p apos : Pos}
/-- the callee runs -/
theorem FnD.run {lv : Nat} {f : Addr} {F : DF} (G : FnD X.prog X.w X.K X.mg X.base lv f F) (hr : Room lv X.A) (tk : Takes X Wx) {pins : List (Addr × Obj)} {s : Shared} {σ : L2.St} {w : Wd} {st : Sto} {ds : List D} {vs : List V} {us : List Value} {Q : VK} (I : Inv X pins σ w.H s)
    (c : Corr X.K w st) (r : Rels X.K w ds vs) (rv : Vals vs us) (h : Post X.K (Rel X.K) w σ Wx Q (F ds st)) : wpAny (model X.prog X.w) X.A (call (.ref f) us) (EP X pins σ Q) X.xe s := by
  have hx : PassesAt (L2.CX X.prog X.w) X σ (WE Wx σ) := passAt tk σ
  refine wpAny_call (codeAny_mono (G.ex X.A X.stack s w.H us vs Q (WE Wx σ) hr I.env0 rv ⟨w.mu, w.xi, ds, st, r, c, ?_⟩) fun r s' hq => ?_)
  rotate_left
  · cases r with
    | error e => exact hx pins w.H s e s' I hq
    | ok fl =>
      cases fl with
      | ret u => exact I.after hq
      | next => exact False.elim hq
      | brk => exact False.elim hq
      | cont => exact False.elim hq
  cases e : F ds st with
  | ok d st' =>
    rw [e] at h
    exact h
  | exc k fs xs st' =>
    rw [e] at h
    exact h
  | bad =>
    rw [e] at h
    exact h
theorem FnD.callD {lv : Nat} {f : Addr} {F : DF} (G : FnD X.prog X.w X.K X.mg X.base lv f F) (hr : Room lv X.A) (tk : Takes X Wx) : CallD X Wx (.ref f) F := fun pins s σ w st ds vs us Q I c r rv h => G.run hr tk I c r rv h
/-- a def of the module -/
structure FnG (P : Program) (w : World) (K : PySem.W.Frag) (mg : Str → Option Value) (base : Heap) (lv : Nat) (x : Str) (F : DF) : Prop where
  ex : ∃ f, mg x = some (.ref f) ∧ FnD P w K mg base lv f F
theorem ce_call {lv : Nat} {x : Str} {F : DF} (G : FnG X.prog X.w X.K X.mg X.base lv x F) (hr : Room lv X.A) (tk : Takes X Wx) (ha : CA X Wx (e :: es) ms) (hg : Gl X x := by rfl) (hdb : (x == ("__debug__" : Str)) = false := by decide)
    (he : starEach (e :: es) X.env = (false, eval e X.env) :: starEach es X.env := by rfl) (hpl : (backTo pos (starEach es X.env)).any (·.1) = false := by rfl) : CE X Wx (.Call (.Name x p) (e :: es) [] pos) (eC F ms) := by
  refine ⟨fun pins s σ H Q I h => ?_⟩
  obtain ⟨mu, xi, env, st, re, c, h⟩ := h
  obtain ⟨f, hm, G⟩ := G.ex
  refine wpAny_Call_Name_kw (ld_glob I hg hm ?_ hdb)
  refine PySem.W.callWith_K (h₀ := X.base) I.ok.mod.kin G.kp (thn (ha.run pos pins s σ H _ I (tG_bind (R := Rels X.K) re c h)) fun us s1 ⟨vs, H1, I1, rv, mu1, xi1, d, st1, l1, r1, c1, re1, p1⟩ => ⟨I1.kIn, ?_⟩) he hpl
  exact G.run (w := ⟨H1, mu1, xi1⟩) hr tk I1 c1 r1 rv p1
def eC0 (F : DF) : M D := fun _ st => F [] st
theorem ce_call0 {lv : Nat} {x : Str} {F : DF} (G : FnG X.prog X.w X.K X.mg X.base lv x F) (hr : Room lv X.A) (tk : Takes X Wx) (hg : Gl X x := by rfl) (hdb : (x == ("__debug__" : Str)) = false := by decide) : CE X Wx (.Call (.Name x p) [] [] pos) (eC0 F) := by
  refine ⟨fun pins s σ H Q I h => ?_⟩
  obtain ⟨mu, xi, env, st, re, c, h⟩ := h
  obtain ⟨f, hm, G⟩ := G.ex
  refine wpAny_Call_Name_kw (ld_glob I hg hm ?_ hdb)
  exact PySem.W.callWith_K0 I.kIn G.kp (G.run (w := ⟨H, mu, xi⟩) (us := []) hr tk I c .nil .nil h)

/-! ### instances -/
/-- an instance's class, its fields -/
def insD (st : Sto) : D → Option (String × List String × List D)
  | .ins k fs xs => some (k, fs, xs)
  | .ref n => match st[n]? with
    | some (.ins k fs xs) => some (k, fs, xs)
    | _ => none
  | _ => none
theorem insD_ok {K : PySem.W.Frag} {w : Wd} {st : Sto} {d : D} {v : V} {k : String} {fs : List String} {xs : List D} (c : Corr K w st) (r : Rel K w d v) (h : insD st d = some (k, fs, xs)) :
    ∃ a dx gs, v = .ref a ∧ w.H a = some (.ins (gaS K k) dx gs) ∧ gs.map (·.1) = fs.map Str.ofString ∧ Rels K w xs (gs.map (·.2)) := by
  cases d with
  | ins k' fs' xs' =>
    cases h
    unfold Rel at r
    obtain ⟨a, dx, gs, e, q, s, t⟩ := r
    exact ⟨a, dx, gs, e, fr_here q, s, t⟩
  | ref n =>
    unfold Rel at r
    obtain ⟨a, e, q⟩ := r
    have h2 : (match st[n]? with
      | some (.ins k fs xs) => some (k, fs, xs)
      | _ => none) = some (k, fs, xs) := h
    split at h2
    · rename_i k' fs' xs' hx
      cases h2
      obtain ⟨u, hu, dx, gs, e2, s, t⟩ := c.obj n a _ q hx
      subst e2
      exact ⟨a, dx, gs, e, hu, s, t⟩
    · cases h2
  | _ => cases h
/-- a field by its name -/
def fget : List String → List D → String → Option D
  | f :: fs, x :: xs, g => if f = g then some x else fget fs xs g
  | _, _, _ => none
theorem fget_ok {K : PySem.W.Frag} {w : Wd} : ∀ {fs : List String} {xs : List D} {gs : List (Str × V)} {g : String} {d : D}, gs.map (·.1) = fs.map Str.ofString → Rels K w xs (gs.map (·.2)) → fget fs xs g = some d → ∃ v, gs.lookup (Str.ofString g) = some v ∧ Rel K w d v
  | [], _, _, _, _, _, _, h => by
    unfold fget at h
    cases h
  | _ :: _, [], _, _, _, _, _, h => by
    unfold fget at h
    cases h
  | f :: fs, x :: xs, [], _, _, e, _, _ => by cases e
  | f :: fs, x :: xs, (k, u) :: gs, g, d, e, r, h => by
    rw [List.map_cons, List.map_cons] at e
    injection e with e1 e2
    rw [List.map_cons] at r
    obtain ⟨v, rr, e3, q, s⟩ := r.inv
    injection e3 with e3 e4
    subst e3 e4
    unfold fget at h
    have e1' : k = Str.ofString f := e1
    subst e1'
    rw [List.lookup_cons]
    by_cases hfg : f = g
    · rw [if_pos hfg] at h
      cases h
      subst hfg
      rw [beq_self_eq_true]
      exact ⟨u, rfl, q⟩
    · rw [if_neg hfg] at h
      have : (Str.ofString g == Str.ofString f) = false := beq_eq_false_iff_ne.mpr fun e => hfg (ofString_inj e.symm)
      rw [this]
      exact fget_ok e2 s h
theorem fget_none {fs : List String} {gs : List (Str × V)} {g : String} (e : gs.map (·.1) = fs.map Str.ofString) (h : g ∉ fs) : gs.lookup (Str.ofString g) = none := by
  induction fs generalizing gs with
  | nil =>
    cases gs with
    | nil => rfl
    | cons x y => cases e
  | cons f fs ih =>
    cases gs with
    | nil => cases e
    | cons x y =>
      obtain ⟨k, u⟩ := x
      rw [List.map_cons, List.map_cons] at e
      injection e with e1 e2
      have e1' : k = Str.ofString f := e1
      subst e1'
      rw [List.lookup_cons]
      have : (Str.ofString g == Str.ofString f) = false := beq_eq_false_iff_ne.mpr fun e => h (by rw [ofString_inj e]; exact List.mem_cons_self)
      rw [this]
      exact ih e2 fun q => h (List.mem_cons_of_mem _ q)
/-- what a class's plain fields ask -/
abbrev FT : Type := List (String × String)
structure FlD (K : PySem.W.Frag) (k f : String) : Prop where
  cl : Cls K (gaS K k)
  no : NoAttr K (gaS K k) (Str.ofString f)
def FlOk (K : PySem.W.Frag) (ft : FT) : Prop := ∀ q ∈ ft, FlD K q.1 q.2
theorem FlOk.nil {K : PySem.W.Frag} : FlOk K [] := fun q h => by cases h
theorem FlOk.cons {K : PySem.W.Frag} {k f : String} {ft : FT} (h : FlD K k f) (t : FlOk K ft) : FlOk K ((k, f) :: ft) := fun q hq => by
  rcases List.mem_cons.mp hq with e | hq
  · subst e
    exact h
  · exact t q hq
def eFld (ft : FT) (f : String) (mo : M D) : M D := fun env st => (mo env st).bind fun x s1 => match insD s1 x with
  | some (k, fs, xs) => if (k, f) ∈ ft then (match fget fs xs f with
    | some d => .ok d s1
    | none => .bad) else .bad
  | none => .bad
theorem ce_fld {ft : FT} {f : String} {fn : Str} (hf : FlOk X.K ft) (ho : CE X Wx o mo) (en : fn = Str.ofString f := by rfl) (hb : attributeBase o fn X.env (eval o X.env) = eval o X.env := by rfl) : CE X Wx (.Attribute o fn pos) (eFld ft f mo) := by
  subst en
  refine PE.mono (pe_fld ho hb) fun σ H Q h => ?_
  obtain ⟨mu, xi, env, st, re, c, h⟩ := h
  refine tG_mono (tG_bind (R := Rel X.K) re c h) fun v H1 ⟨mu1, xi1, d, st1, l1, r1, c1, re1, p1⟩ => ?_
  split at p1
  · rename_i k fs xs e1
    split at p1
    · rename_i hm
      split at p1
      · rename_i d' e2
        obtain ⟨a1, dx, gs, e, q, s, t⟩ := insD_ok c1 r1 e1
        obtain ⟨v', hv, rv⟩ := fget_ok s t e2
        obtain ⟨f1, f2⟩ := hf _ hm
        exact ⟨a1, _, dx, gs, v', e, q, f1, f2, hv, p1 ⟨H1, mu1, xi1⟩ v' (.refl _) rv c1⟩
      · exact p1.elim
    · exact p1.elim
  · exact p1.elim
/-- self.f = e -/
def fput : List String → List D → String → D → List String × List D
  | f :: fs, x :: xs, g, y => if f = g then (f :: fs, y :: xs) else (f :: (fput fs xs g y).1, x :: (fput fs xs g y).2)
  | _, _, g, y => ([g], [y])
theorem fput_ok {K : PySem.W.Frag} {w : Wd} : ∀ {fs : List String} {xs : List D} {gs : List (Str × V)} {g : String} {y : D} {v : V}, gs.map (·.1) = fs.map Str.ofString → Rels K w xs (gs.map (·.2)) → Rel K w y v →
    (putF (Str.ofString g) v gs).map (·.1) = (fput fs xs g y).1.map Str.ofString ∧ Rels K w (fput fs xs g y).2 ((putF (Str.ofString g) v gs).map (·.2))
  | [], xs, gs, g, y, v, e, r, ry => by
    cases gs with
    | nil =>
      cases xs with
      | nil => exact ⟨rfl, .cons ry .nil⟩
      | cons x xs =>
        have := r.length
        simp at this
    | cons _ _ => cases e
  | f :: fs, [], gs, g, y, v, e, r, ry => by
    cases gs with
    | nil => cases e
    | cons _ _ =>
      have := r.length
      simp at this
  | f :: fs, x :: xs, [], _, _, _, e, _, _ => by cases e
  | f :: fs, x :: xs, (k, u) :: gs, g, y, v, e, r, ry => by
    rw [List.map_cons, List.map_cons] at e
    injection e with e1 e2
    rw [List.map_cons] at r
    obtain ⟨v', rr, e3, q, s⟩ := r.inv
    injection e3 with e3 e4
    subst e3 e4
    have e1' : k = Str.ofString f := e1
    subst e1'
    have ih := fput_ok (g := g) e2 s ry
    unfold fput putF
    by_cases hfg : f = g
    · subst hfg
      rw [if_pos rfl, if_pos rfl]
      exact ⟨by rw [List.map_cons, List.map_cons, e2], .cons ry s⟩
    · rw [if_neg hfg, if_neg (fun e => hfg (ofString_inj e))]
      exact ⟨by rw [List.map_cons, List.map_cons, ih.1], .cons q ih.2⟩
def sFldD (ft : FT) (f : String) (mo me : M D) : MS := fun env st => (me env st).toS env fun y s1 => (mo env s1).toS env fun x s2 => match x with
  | .ref n => (match s2[n]? with
    | some (.ins k fs xs) => if Ok ((k, f) ∈ ft ∧ fs.length < 1000) then .nx env (s2.set n (.ins k (fput fs xs f y).1 (fput fs xs f y).2)) else .bad
    | _ => .bad)
  | _ => .bad
theorem cs_fld {ft : FT} {f : String} {fn : Str} (hf : FlOk X.K ft) (ho : CE X Wx o mo) (he : CE X Wx e me) (en : fn = Str.ofString f := by rfl) (hs : swapsWith e (some (.Attribute o fn p2)) pos.line X.env = pure false := by rfl) : CS X Wx (.Assign [.Attribute o fn p2] e pos) (sFldD ft f mo me) := by
  subst en
  refine PS.mono (ps_fld ho he hs) fun E σ H h => ?_
  obtain ⟨mu, xi, env, st, re, c, h⟩ := h
  refine tG_mono (tG_bindS (R := Rel X.K) re c h) fun v H1 ⟨mu1, xi1, d, st1, l1, r1, c1, re1, p1⟩ => ?_
  refine tG_mono (tG_bindS (R := Rel X.K) re1 c1 p1) fun v2 H2 ⟨mu2, xi2, d2, st2, l2, r2, c2, re2, p2⟩ => ?_
  split at p2
  · rename_i n
    split at p2
    · rename_i k fs xs hx
      split at p2
      · rename_i hq
        unfold Rel at r2
        obtain ⟨a, e, hn⟩ := r2
        obtain ⟨u, hu, dx, gs, e2, s, t⟩ := c2.obj n a _ hn hx
        subst e2
        obtain ⟨f1, f2⟩ := hf _ hq.1
        obtain ⟨q1, q2⟩ := fput_ok (g := f) s t (r1.le l2)
        obtain ⟨l3, c3⟩ := c2.set (o := .ins (gaS X.K k) dx (putF (Str.ofString f) v gs)) (so := .ins k (fput fs xs f d).1 (fput fs xs f d).2) hn (List.getElem?_eq_some_iff.mp hx).1 ⟨dx, _, rfl, q1, q2⟩
        refine ⟨a, _, dx, gs, e, hu, f1, f2, ?_, p2 _ σ l3 (re2.le l3) c3⟩
        have := congrArg List.length s
        rw [List.length_map, List.length_map] at this
        rw [this]
        exact hq.2
      · exact p2.elim
    · exact p2.elim
  · exact p2.elim

/-! ### methods -/
abbrev MT : Type := List (String × String × DF)
def mfind : MT → String → String → Option DF
  | [], _, _ => none
  | (k', m', F) :: r, k, m => if k' = k ∧ m' = m then some F else mfind r k m
structure MtD (P : Program) (w : World) (K : PySem.W.Frag) (mg : Str → Option Value) (base : Heap) (lv : Nat) (k m : String) (F : DF) : Prop where
  cl : Cls K (gaS K k)
  ex : ∃ f, Meth K (gaS K k) (Str.ofString m) f ∧ FnD P w K mg base lv f F
def MtOk (X : Cx) (mt : MT) : Prop := ∀ k m F, mfind mt k m = some F → ∃ lv, Room lv X.A ∧ MtD X.prog X.w X.K X.mg X.base lv k m F
theorem MtOk.nil : MtOk X [] := fun k m F h => by cases h
theorem MtOk.cons {lv : Nat} {k m : String} {F : DF} {mt : MT} (hr : Room lv X.A) (h : MtD X.prog X.w X.K X.mg X.base lv k m F) (t : MtOk X mt) : MtOk X ((k, m, F) :: mt) := fun k' m' F' h' => by
  unfold mfind at h'
  split at h'
  · rename_i e
    cases h'
    rw [← e.1, ← e.2]
    exact ⟨lv, hr, h⟩
  · exact t k' m' F' h'
def eMeth (mt : MT) (m : String) (mo : M D) (ms : M (List D)) : M D := fun env st => (mo env st).bind fun x s1 => match insD s1 x with
  | some (k, fs, _) => (match mfind mt k m with
    | some F => if m ∈ fs then .bad else (ms env s1).bind fun ds s2 => F (x :: ds) s2
    | none => .bad)
  | none => .bad
theorem ce_meth {mt : MT} {m : String} {mn : Str} {pl : Sem Bool} (hm : MtOk X mt) (tk : Takes X Wx) (ho : CE X Wx o mo) (ha : CA X Wx (e :: es) ms) (en : mn = Str.ofString m := by rfl)
    (hst : starEach (e :: es) X.env = (false, eval e X.env) :: starEach es X.env := by rfl) (hpl : (backTo pos (starEach es X.env)).any (·.1) = false := by rfl)
    (ht : eval (.Call (.Attribute o mn apos) (e :: es) [] pos) X.env = (do
      let ov ← eval o X.env
      standAt apos.atName
      let (f, first) ← holding [ov] (getMethod ov mn pl)
      callWith pos f first (backTo pos (starEach (e :: es) X.env)) (backToKw pos (keywordEach [] X.env))) := by rfl) :
    CE X Wx (.Call (.Attribute o mn apos) (e :: es) [] pos) (eMeth mt m mo ms) := by
  subst en
  refine ⟨fun pins s σ H Q I h => ?_⟩
  obtain ⟨mu, xi, env, st, re, c, h⟩ := h
  refine PySem.W.methodCall_KW (pl := pl) (thn (ho.run pins s σ H _ I (tG_bind (R := Rel X.K) re c h)) fun u s1 ⟨x, H1, I1, rx, mu1, xi1, d, st1, l1, r1, c1, re1, p1⟩ => ?_) ht
  split at p1
  · rename_i k fs xs e1
    split at p1
    · rename_i F e2
      split at p1
      · exact p1.elim
      · rename_i hnf
        obtain ⟨a1, dx, gs, ea, q, s, t⟩ := insD_ok c1 r1 e1
        subst ea
        obtain ⟨lv, hr, cl, f, mth, G⟩ := hm k m F e2
        obtain rfl : u = Value.ref a1 := rx
        refine getmeth_ok I1 q cl mth (fget_none s hnf) ?_
        refine PySem.W.callWith_K (first := [.ref a1]) (h₀ := X.base) I.ok.mod.kin mth.kp (thn (ha.run pos pins s1 σ H1 _ I1 (tG_bind (R := Rels X.K) re1 c1 p1)) fun us s2 ⟨vs, H2, I2, rv, mu2, xi2, ds, st2, l2, r2, c2, re2, p2⟩ => ⟨I2.kIn, ?_⟩) hst hpl
        exact G.run (w := ⟨H2, mu2, xi2⟩) (us := .ref a1 :: us) (vs := .ref a1 :: vs) (ds := d :: ds) hr tk I2 c2 (.cons (r1.le l2) r2) (.cons rfl rv) p2
    · exact p1.elim
  · exact p1.elim
theorem ce_meth0 {mt : MT} {m : String} {mn : Str} {pl : Sem Bool} (hm : MtOk X mt) (tk : Takes X Wx) (ho : CE X Wx o mo) (en : mn = Str.ofString m := by rfl)
    (ht : eval (.Call (.Attribute o mn apos) [] [] pos) X.env = (do
      let ov ← eval o X.env
      standAt apos.atName
      let (f, first) ← holding [ov] (getMethod ov mn pl)
      callWith pos f first (backTo pos (starEach [] X.env)) (backToKw pos (keywordEach [] X.env))) := by rfl) :
    CE X Wx (.Call (.Attribute o mn apos) [] [] pos) (eMeth mt m mo aNil) := by
  subst en
  refine ⟨fun pins s σ H Q I h => ?_⟩
  obtain ⟨mu, xi, env, st, re, c, h⟩ := h
  refine PySem.W.methodCall_KW (pl := pl) (thn (ho.run pins s σ H _ I (tG_bind (R := Rel X.K) re c h)) fun u s1 ⟨x, H1, I1, rx, mu1, xi1, d, st1, l1, r1, c1, re1, p1⟩ => ?_) ht
  split at p1
  · rename_i k fs xs e1
    split at p1
    · rename_i F e2
      split at p1
      · exact p1.elim
      · rename_i hnf
        obtain ⟨a1, dx, gs, ea, q, s, t⟩ := insD_ok c1 r1 e1
        subst ea
        obtain ⟨lv, hr, cl, f, mth, G⟩ := hm k m F e2
        obtain rfl : u = Value.ref a1 := rx
        refine getmeth_ok I1 q cl mth (fget_none s hnf) ?_
        exact PySem.W.callWith_K0 (first := [.ref a1]) I1.kIn mth.kp (G.run (w := ⟨H1, mu1, xi1⟩) (us := [.ref a1]) (vs := [.ref a1]) (ds := [d]) hr tk I1 c1 (.cons r1 .nil) (.cons rfl .nil) p1)
    · exact p1.elim
  · exact p1.elim

/-! ### making an instance -/
noncomputable def mkI (k : String) (F : DF) (lv : Bool) : DF := fun ds st => match F (.ref st.length :: ds) (st ++ [.ins k [] []]) with
  | .ok .non s2 => if lv = true then .ok (.ref st.length) s2 else fin st (.ref st.length) s2
  | .exc k fs xs s2 => excEnd st k fs xs s2
  | _ => .bad
structure MkD (P : Program) (w : World) (K : PySem.W.Frag) (mg : Str → Option Value) (base : Heap) (lv : Nat) (k : String) (F : DF) : Prop where
  glo : mg (Str.ofString k) = some (.ref (gaS K k))
  ex : ∃ f, Mk K (gaS K k) f ∧ FnD P w K mg base lv f F
theorem run_makeSD {C f : Addr} {k : Nat} {sp : Sp} {E : L2.St → XK} {pins : List (Addr × Obj)} {σ : L2.St} {H : Hp} {s : Shared} {Q : VK} {us : List Value} {vs : List V} (M : Mk X.K C f) (F : FnR X.prog X.w X.K X.mg X.base (L2.CX X.prog X.w) k f sp) (hr : Room (k + 1) X.A)
    (hx : PassesAt (L2.CX X.prog X.w) X σ (E σ)) (I : Inv X pins σ H s) (r : Vals vs us)
    (h : ∀ x dx, H x = none → H dx = none → dx ≠ x → sp (.ref x :: vs) (upd (upd H dx (.own x)) x (.ins C dx [])) (fun v H2 => v = .non ∧ Q (.ref x) H2) (E σ)) :
    wpAny (model X.prog X.w) X.A (call (.ref C) us) (EP X pins σ Q) X.xe s := by
  have hq := h (s.heap.objs.size + 1) s.heap.objs.size (I.hok.fresh (Nat.le_succ _)) (I.hok.fresh (Nat.le_refl _)) (Nat.ne_of_lt (Nat.lt_succ_self _))
  have I2 := Inv.made (C := C) I
  have r2 : Vals (V.ref (s.heap.objs.size + 1) :: vs) (Value.ref (s.heap.objs.size + 1) :: us) := .cons rfl r
  refine wpAny_call (make_map (f := f) I.kIn M.makes M.init (beq_iff_eq.mp M.fn) (codeAny_mono (F _ X.stack _ _ (Value.ref (s.heap.objs.size + 1) :: us) _ _ (E σ) (hr.make C us []) (I2.env0.make C us []) r2 hq) fun r s' hq' => ?_))
  cases r with
  | error e => exact hx pins _ _ e s' I2 hq'
  | ok fl =>
    cases fl with
    | ret u =>
      obtain ⟨v, H', I3, rv, ev, q3⟩ := I2.after hq'
      subst ev
      exact ⟨rv, ⟨V.ref (s.heap.objs.size + 1), H', I3, rfl, q3⟩⟩
    | next => exact False.elim hq'
    | brk => exact False.elim hq'
    | cont => exact False.elim hq'
theorem mk_callD {lv : Nat} {k : String} {F : DF} {live : Bool} (G : MkD X.prog X.w X.K X.mg X.base lv k F) (hr : Room (lv + 1) X.A) (tk : Takes X Wx) : CallD X Wx (.ref (gaS X.K k)) (mkI k F live) := by
  intro pins s σ w st ds vs us Q I c r rv h
  obtain ⟨f, mk, G⟩ := G.ex
  refine run_makeSD (E := WE Wx) mk G.ex hr (passAt tk σ) I rv fun x dx hx hdx ne => ?_
  -- the new instance's own dict, then the instance
  obtain ⟨l1, c1, e1⟩ := c.new (.own x) hdx
  have hx1 : (upd w.H dx (.own x)) x = none := by
    rw [upd_ne ne.symm]
    exact hx
  obtain ⟨l2, c2, e2⟩ := c1.push (.ins (gaS X.K k) dx []) (.ins k [] []) hx1 ⟨dx, [], rfl, rfl, .nil⟩
  have r2 : Rels X.K ⟨upd (upd w.H dx (.own x)) x (.ins (gaS X.K k) dx []), w.mu ++ [x], w.xi⟩ (.ref st.length :: ds) (.ref x :: vs) := .cons (by unfold Rel; exact ⟨x, rfl, e2⟩) ((r.le l1).le l2)
  refine ⟨w.mu ++ [x], w.xi, _, _, r2, c2, ?_⟩
  unfold mkI at h
  have l12 := l1.trans l2
  cases ef : F (.ref st.length :: ds) (st ++ [.ins k [] []]) with
  | bad =>
    rw [ef] at h
    exact h.elim
  | exc k' fs xs st' =>
    rw [ef] at h
    intro w' dd l' c' x'
    exact excEnd_ok c (l12.trans l') c' x' h
  | ok d st' =>
    rw [ef] at h
    intro w' v l' rd c'
    cases d with
    | non =>
      have h2 : Post X.K (Rel X.K) w σ Wx Q (if live = true then Res.ok (.ref st.length) st' else fin st (.ref st.length) st') := h
      unfold Rel at rd
      refine ⟨rd, ?_⟩
      have L := l12.trans l'
      have rx : Rel X.K w' (.ref st.length) (.ref x) := by
        unfold Rel
        refine ⟨x, rfl, ?_⟩
        obtain ⟨t, ht⟩ := l'.sub.mu
        rw [← ht, List.getElem?_append_left (List.getElem?_eq_some_iff.mp e2).1]
        exact e2
      cases live with
      | true => exact h2 w' _ L rx c'
      | false =>
        have h3 : Post X.K (Rel X.K) w σ Wx Q (fin st (.ref st.length) st') := h2
        cases eg : fin st (.ref st.length) st' with
        | ok d2 s2 =>
          rw [eg] at h3
          obtain ⟨l3, c3, r3⟩ := fin_ok L c c' rx eg
          exact h3 (w.back w') _ l3 r3 c3
        | exc _ _ _ _ =>
          unfold fin at eg
          split at eg <;> cases eg
        | bad =>
          rw [eg] at h3
          exact h3.elim
    | _ => exact h.elim
end
end ND
end
noncomputable section
namespace ND
open PySem L2 PyProof.Rows
section
variable {X : Cx} {Wx : WX} {a b c e o tg : Expr} {es : List Expr} {ma mb mc me mo : M D} {ms : M (List D)} {pos p2 p apos cpos tpos : Pos}
/-! ### sources -/
/-- what is tracked is nothing of the written part -/
theorem not_written {pins : List (Addr × Obj)} {σ : L2.St} {H : Hp} {s : Shared} (I : Inv X pins σ H s) {q : Addr} {u : HO} (h : H q = some u) : X.K.lookup q = none := by
  cases e : X.K.lookup q with
  | none => rfl
  | some o =>
    have hb := I.ok.mod.kin q o e
    obtain ⟨h0, hn⟩ := I.ok.bs q o hb
    have := I.base.free q o h0 hn (I.ok.noex q o hb)
    rw [h] at this
    cases this
/-- a frozen list, a tuple -/
theorem wk_fzL {K : PySem.W.Frag} {w₀ : Wd} {q : Addr} {xs : List D} {vs : List V} (h : SqL K w₀.fr q vs) (s : Rels K w₀ xs vs) : Wk K w₀ (.fz xs) (Itl K q) := fun i w st l c => by
  have h' : SqL K w.H q vs := ex_l (fun _ _ => fr_here) (ex_l l.fr h)
  refine ⟨fun e => ⟨vs, h', ?_⟩, fun d e => ?_⟩
  · have e2 : xs[i]? = none := Option.some.inj e
    rw [← s.length]
    exact List.getElem?_eq_none_iff.mp e2
  · have e2 : xs[i]? = some d := Option.some.inj e
    obtain ⟨v, hv, rv⟩ := s.get e2
    refine ⟨⟨vs, v, h', hv⟩, fun x H' y => ?_⟩
    obtain ⟨eH, y⟩ := y
    subst eH
    have e3 := y vs h'
    rw [hv] at e3
    cases e3
    exact ⟨fun _ _ z => z, Rel.sub l _ _ rv⟩
theorem wk_fzT {K : PySem.W.Frag} {w₀ : Wd} {q : Addr} {xs : List D} {vs : List V} (h : SqT K w₀.fr q vs) (s : Rels K w₀ xs vs) : Wk K w₀ (.fz xs) (Itt K q) := fun i w st l c => by
  have h' : SqT K w.H q vs := ex_t (fun _ _ => fr_here) (ex_t l.fr h)
  refine ⟨fun e => ⟨vs, h', ?_⟩, fun d e => ?_⟩
  · have e2 : xs[i]? = none := Option.some.inj e
    rw [← s.length]
    exact List.getElem?_eq_none_iff.mp e2
  · have e2 : xs[i]? = some d := Option.some.inj e
    obtain ⟨v, hv, rv⟩ := s.get e2
    refine ⟨⟨vs, v, h', hv⟩, fun x H' y => ?_⟩
    obtain ⟨eH, y⟩ := y
    subst eH
    have e3 := y vs h'
    rw [hv] at e3
    cases e3
    exact ⟨fun _ _ z => z, Rel.sub l _ _ rv⟩
/-- the one list that stands at an address -/
theorem lst_one {K : PySem.W.Frag} {H : Hp} {q : Addr} {vs : List V} (h : H q = some (.lst vs)) {xs : List V} (h' : Rd H q (.lst xs)) : xs = vs := by
  rcases h' with h' | ⟨o, h'⟩
  · rw [h] at h'
    cases h'
    rfl
  · rw [h] at h'
    cases h'
/-- a live list -/
theorem wk_lv {K : PySem.W.Frag} {w₀ : Wd} {q : Addr} {k n : Nat} (h : w₀.mu[k]? = some q) (hk : K.lookup q = none) : Wk K w₀ (.lv k n) (Itl K q) := fun i w st l c => by
  have hm : w.mu[k]? = some q := by
    obtain ⟨t, ht⟩ := l.mu
    rw [← ht, List.getElem?_append_left (List.getElem?_eq_some_iff.mp h).1]
    exact h
  refine ⟨fun e => ?_, fun d e => ?_⟩
  · have e1 : (match st[k]? with
      | some (.lst xs) => some xs[i]?
      | _ => none) = some none := e
    split at e1
    · rename_i xs hx
      obtain ⟨u, hu, vs, e2, s⟩ := c.obj k q _ hm hx
      subst e2
      refine ⟨vs, .inl (.inl hu), ?_⟩
      rw [← s.length]
      exact List.getElem?_eq_none_iff.mp (Option.some.inj e1)
    · cases e1
  · have e1 : (match st[k]? with
      | some (.lst xs) => some xs[i]?
      | _ => none) = some (some d) := e
    split at e1
    · rename_i xs hx
      obtain ⟨u, hu, vs, e2, s⟩ := c.obj k q _ hm hx
      subst e2
      obtain ⟨v, hv, rv⟩ := s.get (Option.some.inj e1)
      refine ⟨⟨vs, v, .inl (.inl hu), hv⟩, fun x H' y => ?_⟩
      obtain ⟨eH, y⟩ := y
      subst eH
      have e3 := y vs (.inl (.inl hu))
      rw [hv] at e3
      cases e3
      exact ⟨fun _ _ z => z, rv⟩
    · cases e1
theorem wk_str {K : PySem.W.Frag} {w₀ : Wd} {z : Str} : Wk K w₀ (.fz (z.cps.toList.map fun ch => .str ⟨#[ch]⟩)) (Its z) := fun i w st l c => by
  refine ⟨fun e => ?_, fun d e => ?_⟩
  · have e2 : (z.cps.toList.map fun ch => D.str ⟨#[ch]⟩)[i]? = none := Option.some.inj e
    have e3 := List.getElem?_eq_none_iff.mp e2
    rw [List.length_map, Array.length_toList] at e3
    exact e3
  · have e2 : (z.cps.toList.map fun ch => D.str ⟨#[ch]⟩)[i]? = some d := Option.some.inj e
    rw [List.getElem?_map, Array.getElem?_toList] at e2
    cases e3 : z.cps[i]? with
    | none =>
      rw [e3] at e2
      cases e2
    | some ch =>
      rw [e3] at e2
      cases e2
      have hi : i < z.cps.size := by
        rcases Nat.lt_or_ge i z.cps.size with h | h
        · exact h
        · rw [Array.getElem?_eq_none h] at e3
          cases e3
      refine ⟨hi, fun x H' y => ?_⟩
      obtain ⟨eH, c2, h2, e4⟩ := y
      subst eH
      rw [e3] at h2
      cases h2
      subst e4
      exact ⟨fun _ _ z => z, rel_str _ _⟩
def rangeD (lo : Int) (n : Nat) : List D := (List.range n).map fun i : Nat => .int (lo + (i : Int))
theorem wk_rng {K : PySem.W.Frag} {w₀ : Wd} {lo : Int} {n : Nat} : Wk K w₀ (.fz (rangeD lo n)) (Itr lo n) := fun i w st l c => by
  unfold rangeD
  refine ⟨fun e => ?_, fun d e => ?_⟩
  · have e2 : ((List.range n).map fun i : Nat => D.int (lo + (i : Int)))[i]? = none := Option.some.inj e
    have e3 := List.getElem?_eq_none_iff.mp e2
    rw [List.length_map, List.length_range] at e3
    exact e3
  · have e2 : ((List.range n).map fun i : Nat => D.int (lo + (i : Int)))[i]? = some d := Option.some.inj e
    rw [List.getElem?_map] at e2
    by_cases hi : i < n
    · rw [List.getElem?_range hi] at e2
      cases e2
      refine ⟨hi, fun x H' y => ?_⟩
      obtain ⟨eH, y⟩ := y
      subst eH y
      exact ⟨fun _ _ z => z, rel_int _ _⟩
    · rw [List.getElem?_eq_none (by rw [List.length_range]; exact Nat.le_of_not_lt hi)] at e2
      cases e2
/-- a value walked: a list, a tuple, a text -/
def srcD (x : D) (st : Sto) : Res Src := match x with
  | .str z => .ok (.fz (z.cps.toList.map fun ch => .str ⟨#[ch]⟩)) st
  | .tup xs => .ok (.fz xs) st
  | .lst xs => .ok (.fz xs) st
  | .ext ns => .ok (.fz (ns.map .int)) st
  | .ref k => match st[k]? with
    | some (.lst xs) => .ok (.lv k xs.length) st
    | _ => .bad
  | _ => .bad
def iVal (m : M D) : M Src := fun env st => (m env st).bind srcD
theorem ci_val (hl : CE X Wx o mo) : CI X Wx tg o (iVal mo) := by
  refine ⟨fun pins s σ H R I h => ?_⟩
  obtain ⟨mu, xi, env, st, re, c, h⟩ := h
  refine thn (hl.run pins s σ H _ I (tG_bind (R := Rel X.K) re c h)) fun v s1 ⟨x, H1, I1, rv, mu1, xi1, d, st1, l1, r1, c1, re1, p1⟩ => ?_
  have goL : ∀ (a : Addr) (S : Src), x = .ref a → (∃ xs, SqL X.K H1 a xs) → Wk X.K ⟨H1, mu1, xi1⟩ S (Itl X.K a) → (∀ w' J, Wd.Le ⟨H1, mu1, xi1⟩ w' → Wk X.K w' S J → Corr X.K w' st1 → R J w'.H) →
      wpAny (model X.prog X.w) X.A (pyIter v) (PIE X pins σ tg R) X.xe s1 := by
    intro a S e ⟨xs, hq⟩ wk q
    subst e
    cases rv
    obtain ⟨its, rv, p, hz⟩ := I1.list hq
    refine wpAny_pyIter_list p.isList ?_
    refine ⟨s1.heap.objs.size, [s1.heap.objs.size], _, _, H1, rfl, I1.kept (t' := s1.toks) fun b o e => Heap.get?_push_of_some _ e, turn_list a _, ⟨_, Heap.get?_push_size _ rfl, rfl, rfl⟩, fun b hb => ?_, q ⟨H1, mu1, xi1⟩ _ (.refl _) wk c1⟩
    have e : b = s1.heap.objs.size := by simpa using hb
    subst e
    exact I1.fpOk (Nat.le_refl _) (I1.hok.fresh (Nat.le_refl _))
  cases d with
  | str z =>
    unfold Rel at r1
    subst r1
    obtain ⟨t, rfl⟩ := rv
    have q := p1 ⟨H1, mu1, xi1⟩ (Its z) (.refl _) wk_str c1
    cases ha : z.cps.all (· < 128)
    · exact wpAny_pyIter_wide ha (pi_one (tk := s1.toks) I1 _ (turn_str _ z t "str_iterator" (.inr rfl)) ⟨_, Heap.get?_push_size _ rfl, rfl, rfl⟩ q)
    · exact wpAny_pyIter_ascii ha (pi_one (tk := s1.toks) I1 _ (turn_str _ z t "str_ascii_iterator" (.inl rfl)) ⟨_, Heap.get?_push_size _ rfl, rfl, rfl⟩ q)
  | tup xs =>
    unfold Rel at r1
    obtain ⟨a, vs, e, q, sr⟩ := r1
    subst e
    cases rv
    obtain ⟨its, rv, p, hz⟩ := I1.tuple (.inl (.inl (fr_here q)))
    refine wpAny_pyIter_tuple (show s1.heap.IsTuple a its.toArray from p) ?_
    refine ⟨s1.heap.objs.size, [s1.heap.objs.size], _, _, H1, rfl, I1.kept (t' := s1.toks) fun b o e => Heap.get?_push_of_some _ e, turn_tuple a _, ⟨_, Heap.get?_push_size _ rfl, rfl, rfl⟩, fun b hb => ?_, p1 ⟨H1, mu1, xi1⟩ _ (.refl _) (wk_fzT (.inl (.inl q)) sr) c1⟩
    have e : b = s1.heap.objs.size := by simpa using hb
    subst e
    exact I1.fpOk (Nat.le_refl _) (I1.hok.fresh (Nat.le_refl _))
  | lst xs =>
    unfold Rel at r1
    obtain ⟨a, vs, e, q, sr⟩ := r1
    exact goL a _ e ⟨vs, .inl (.inl (fr_here q))⟩ (wk_fzL (.inl (.inl q)) sr) p1
  | ext ns =>
    unfold Rel at r1
    obtain ⟨a, e, q⟩ := r1
    exact goL a _ e ⟨_, ex_l (fun _ _ => fr_here) q⟩ (wk_fzL q (Rels.ofInts ns)) p1
  | ref k =>
    unfold Rel at r1
    obtain ⟨a, e, q⟩ := r1
    have p2 : Post X.K (Wk X.K) ⟨H1, mu1, xi1⟩ σ Wx R (match st1[k]? with
      | some (.lst xs) => .ok (.lv k xs.length) st1
      | _ => .bad) := p1
    split at p2
    · rename_i xs hx
      obtain ⟨u, hu, vs, e2, sr⟩ := c1.obj k a _ q hx
      subst e2
      exact goL a _ e ⟨vs, .inl (.inl hu)⟩ (wk_lv q (not_written I1 hu)) p2
    · exact p2.elim
  | _ => exact p1.elim
def iR1 (m : M D) : M Src := fun env st => (m env st).bind fun d s1 => match d with
  | .int j => if Ok (-(2 ^ 62) ≤ j ∧ j < 2 ^ 62) then .ok (.fz (rangeD 0 j.toNat)) s1 else .bad
  | _ => .bad
theorem ci_range1 (hm : X.mg "range" = none) (ha : CE X Wx a ma) (hg : Gl X "range" := by rfl) (hs : starEach [a] X.env = [(false, eval a X.env)] := by rfl) : CI X Wx tg (.Call (.Name "range" p) [a] [] pos) (iR1 ma) := PI.mono (pi_range1 hg hm (pa_cons ha pa_nil hs) hs) fun σ H R h => by
  obtain ⟨mu, xi, env, st, re, c, h⟩ := h
  refine tG_mono (tG_bind (R := Rel X.K) re c h) fun v H1 ⟨mu1, xi1, d, st1, l1, r1, c1, re1, p1⟩ => ?_
  cases d with
  | int j =>
    unfold Rel at r1
    have p2 : Post X.K (Wk X.K) ⟨H1, mu1, xi1⟩ σ Wx R (if Ok (-(2 ^ 62) ≤ j ∧ j < 2 ^ 62) then .ok (.fz (rangeD 0 j.toNat)) st1 else .bad) := p1
    split at p2
    · rename_i hj
      exact ⟨j, by rw [r1], hj.1, hj.2, p2 ⟨H1, mu1, xi1⟩ _ (.refl _) wk_rng c1⟩
    · exact p2.elim
  | _ => exact p1.elim
def iR2 (m n : M D) : M Src := fun env st => (m env st).bind fun d s1 => (n env s1).bind fun d2 s2 => match d, d2 with
  | .int i, .int j => if Ok (-(2 ^ 62) ≤ i ∧ i < 2 ^ 62 ∧ -(2 ^ 62) ≤ j ∧ j < 2 ^ 62) then .ok (.fz (rangeD i (j - i).toNat)) s2 else .bad
  | _, _ => .bad
theorem ci_range2 (hm : X.mg "range" = none) (ha : CE X Wx a ma) (hb : CE X Wx b mb) (hg : Gl X "range" := by rfl) (hs : starEach [a, b] X.env = [(false, eval a X.env), (false, eval b X.env)] := by rfl) (hs2 : starEach [b] X.env = [(false, eval b X.env)] := by rfl) :
    CI X Wx tg (.Call (.Name "range" p) [a, b] [] pos) (iR2 ma mb) := PI.mono (pi_range2 hg hm (pa_cons ha (pa_cons hb pa_nil hs2) (by rw [hs, hs2])) hs hs2) fun σ H R h => by
  obtain ⟨mu, xi, env, st, re, c, h⟩ := h
  refine tG_mono (tG_bind (R := Rel X.K) re c h) fun v H1 ⟨mu1, xi1, d, st1, l1, r1, c1, re1, p1⟩ => ?_
  refine tG_mono (tG_bind (R := Rel X.K) re1 c1 p1) fun v2 H2 ⟨mu2, xi2, d2, st2, l2, r2, c2, re2, p2⟩ => ?_
  cases d with
  | int i =>
    cases d2 with
    | int j =>
      unfold Rel at r1 r2
      have p3 : Post X.K (Wk X.K) ⟨H2, mu2, xi2⟩ σ Wx R (if Ok (-(2 ^ 62) ≤ i ∧ i < 2 ^ 62 ∧ -(2 ^ 62) ≤ j ∧ j < 2 ^ 62) then .ok (.fz (rangeD i (j - i).toNat)) st2 else .bad) := p2
      split at p3
      · rename_i hj
        exact ⟨i, j, by rw [r1, r2], hj, p3 ⟨H2, mu2, xi2⟩ _ (.refl _) wk_rng c2⟩
      · exact p3.elim
    | _ => exact p2.elim
  | _ => exact p2.elim
/-- enumerate(xs), xs frozen -/
def enumD : Nat → List D → List D
  | _, [] => []
  | i, x :: xs => .tup [.int (i : Int), x] :: enumD (i + 1) xs
theorem enumD_at : ∀ (k : Nat) (xs : List D) (i : Nat), (enumD k xs)[i]? = (xs[i]?).map fun x => .tup [.int ((k + i : Nat) : Int), x]
  | k, [], i => by simp [enumD]
  | k, x :: xs, 0 => by simp [enumD]
  | k, x :: xs, i + 1 => by
    show (enumD (k + 1) xs)[i]? = _
    rw [enumD_at (k + 1) xs i]
    simp only [List.getElem?_cons_succ]
    rw [show k + 1 + i = k + (i + 1) by omega]
theorem enumD_len : ∀ (k : Nat) (xs : List D), (enumD k xs).length = xs.length
  | k, [] => rfl
  | k, x :: xs => by
    show (enumD (k + 1) xs).length + 1 = xs.length + 1
    rw [enumD_len]
theorem wk_enum {K : PySem.W.Frag} {w₀ : Wd} {q : Addr} {xs : List D} {vs : List V} (h : SqL K w₀.fr q vs) (s : Rels K w₀ xs vs) : Wk K w₀ (.fz (enumD 0 xs)) (Ite K q) := fun i w st l c => by
  have h' : SqL K w.H q vs := ex_l (fun _ _ => fr_here) (ex_l l.fr h)
  refine ⟨fun e => ⟨vs, h', ?_⟩, fun d e => ?_⟩
  · have e2 : (enumD 0 xs)[i]? = none := Option.some.inj e
    have e3 := List.getElem?_eq_none_iff.mp e2
    rw [enumD_len] at e3
    rw [← s.length]
    exact e3
  · have e2 : (enumD 0 xs)[i]? = some d := Option.some.inj e
    rw [enumD_at] at e2
    cases e3 : xs[i]? with
    | none =>
      rw [e3] at e2
      cases e2
    | some x0 =>
      rw [e3] at e2
      cases e2
      obtain ⟨v, hv, rv⟩ := s.get e3
      refine ⟨⟨vs, v, h', hv⟩, fun x H' y => ?_⟩
      obtain ⟨T, x1, ex, hT, eH, y⟩ := y
      subst ex eH
      have e4 := y vs h'
      rw [hv] at e4
      cases e4
      obtain ⟨l2, c2, e5⟩ := c.new (.tup [.int (i : Nat), v]) hT
      refine ⟨fun b u hb => by
        rw [upd_ne fun e => by
          rw [e, hT] at hb
          cases hb]
        exact hb, ?_⟩
      unfold Rel
      refine ⟨T, _, rfl, e5, .cons ?_ (.cons ((Rel.sub l _ _ rv).le l2) .nil)⟩
      rw [show (0 + i : Nat) = i by omega]
      exact rel_int _ _
def iEnumD (m : M D) : M Src := fun env st => (m env st).bind fun d s1 => match d with
  | .lst xs => .ok (.fz (enumD 0 xs)) s1
  | _ => .bad
theorem ci_enum {elts : List Expr} {kk : Nat} (hm : X.mg "enumerate" = none) (ha : CE X Wx a ma) (hg : Gl X "enumerate" := by rfl) (hs : starEach [a] X.env = [(false, eval a X.env)] := by rfl) :
    CI X Wx (.Tuple elts kk tpos) (.Call (.Name "enumerate" p) [a] [] pos) (iEnumD ma) := PI.mono (pi_enum hg hm (pa_cons ha pa_nil hs) hs) fun σ H R h => by
  obtain ⟨mu, xi, env, st, re, c, h⟩ := h
  refine tG_mono (tG_bind (R := Rel X.K) re c h) fun v H1 ⟨mu1, xi1, d, st1, l1, r1, c1, re1, p1⟩ => ?_
  cases d with
  | lst xs =>
    unfold Rel at r1
    obtain ⟨q, vs, e, hq, s⟩ := r1
    exact ⟨q, vs, by rw [e], .inl (.inl (fr_here hq)), p1 ⟨H1, mu1, xi1⟩ _ (.refl _) (wk_enum (.inl (.inl hq)) s) c1⟩
  | _ => exact p1.elim

/-! ### comprehensions -/
/-- hidden and shown again -/
theorem hide {K : PySem.W.Frag} {w : Wd} {st : Sto} (c : Corr K w st) {p : Addr} (o : HO) (hp : w.H p = none) :
    let w' : Wd := ⟨upd w.H p o, w.mu, p :: w.xi⟩
    w.Sub w' ∧ Corr K w' st := by
  have pm : p ∉ w.mu := fun h => by
    obtain ⟨u, e⟩ := c.here h
    rw [hp] at e
    cases e
  have px : p ∉ w.xi := fun h => by
    obtain ⟨u, e⟩ := c.hid p h
    rw [hp] at e
    cases e
  have S : w.Sub ⟨upd w.H p o, w.mu, p :: w.xi⟩ := ⟨fun a u h => by
    obtain ⟨h1, h2, h3⟩ := Wd.fr_some.mp h
    have ne : a ≠ p := fun e => by
      rw [e, hp] at h3
      cases h3
    exact Wd.fr_some.mpr ⟨h1, fun q => by
      rcases List.mem_cons.mp q with q | q
      · exact ne q
      · exact h2 q, by
      show upd w.H p o a = some u
      rw [upd_ne ne]
      exact h3⟩, List.prefix_rfl⟩
  refine ⟨S, ⟨c.nd, c.len, fun a ha q => ?_, fun a ha => ?_, fun n a u h1 h2 => ?_⟩⟩
  · rcases List.mem_cons.mp q with q | q
    · exact pm (by rw [← q]; exact ha)
    · exact c.apart a ha q
  · rcases List.mem_cons.mp ha with q | q
    · subst q
      exact ⟨o, upd_same⟩
    · obtain ⟨u, e⟩ := c.hid a q
      refine ⟨u, ?_⟩
      show upd w.H p o a = some u
      rw [upd_ne fun e2 => px (by rw [← e2]; exact q)]
      exact e
  · obtain ⟨v, e, r⟩ := c.obj n a u h1 h2
    refine ⟨v, ?_, RelO.sub S r⟩
    show upd w.H p o a = some v
    rw [upd_ne fun q => pm (by rw [← q]; exact List.mem_of_getElem? h1)]
    exact e
theorem change_hid {K : PySem.W.Frag} {w : Wd} {st : Sto} (c : Corr K w st) {p : Addr} (o : HO) (hp : p ∈ w.xi) :
    let w' : Wd := ⟨upd w.H p o, w.mu, w.xi⟩
    w.Sub w' ∧ Corr K w' st := by
  have S : w.Sub ⟨upd w.H p o, w.mu, w.xi⟩ := ⟨fun a u h => by
    obtain ⟨h1, h2, h3⟩ := Wd.fr_some.mp h
    exact Wd.fr_some.mpr ⟨h1, h2, by
      show upd w.H p o a = some u
      rw [upd_ne fun e => h2 (by rw [e]; exact hp)]
      exact h3⟩, List.prefix_rfl⟩
  refine ⟨S, ⟨c.nd, c.len, c.apart, fun a ha => ?_, fun n a u h1 h2 => ?_⟩⟩
  · by_cases q : a = p
    · subst q
      exact ⟨o, upd_same⟩
    · obtain ⟨u, e⟩ := c.hid a ha
      refine ⟨u, ?_⟩
      show upd w.H p o a = some u
      rw [upd_ne q]
      exact e
  · obtain ⟨v, e, r⟩ := c.obj n a u h1 h2
    refine ⟨v, ?_, RelO.sub S r⟩
    show upd w.H p o a = some v
    rw [upd_ne fun q => c.apart a (List.mem_of_getElem? h1) (by rw [q]; exact hp)]
    exact e
theorem show_again {K : PySem.W.Frag} {H : Hp} {mu xi : List Addr} {p : Addr} {st : Sto} (c : Corr K ⟨H, mu, p :: xi⟩ st) : Wd.Sub ⟨H, mu, p :: xi⟩ ⟨H, mu, xi⟩ ∧ Corr K ⟨H, mu, xi⟩ st := by
  have S : Wd.Sub ⟨H, mu, p :: xi⟩ ⟨H, mu, xi⟩ := ⟨fun a u h => by
    obtain ⟨h1, h2, h3⟩ := Wd.fr_some.mp h
    exact Wd.fr_some.mpr ⟨h1, fun q => h2 (List.mem_cons_of_mem _ q), h3⟩, List.prefix_rfl⟩
  exact ⟨S, ⟨c.nd, c.len, fun a ha q => c.apart a ha (List.mem_cons_of_mem _ q), fun a ha => c.hid a (List.mem_cons_of_mem _ ha), fun n a o h1 h2 => by
    obtain ⟨v, e, r⟩ := c.obj n a o h1 h2
    exact ⟨v, e, RelO.sub S r⟩⟩⟩
theorem show_live {K : PySem.W.Frag} {H : Hp} {mu xi : List Addr} {p : Addr} {st : Sto} {so : SO} {u : HO} (c : Corr K ⟨H, mu, p :: xi⟩ st) (np : p ∉ xi) (hp : H p = some u) (r : RelO K ⟨H, mu, p :: xi⟩ so u) :
    Wd.Sub ⟨H, mu, p :: xi⟩ ⟨H, mu ++ [p], xi⟩ ∧ Corr K ⟨H, mu ++ [p], xi⟩ (st ++ [so]) := by
  have pm : p ∉ mu := fun h => c.apart p h List.mem_cons_self
  have hl : st.length = mu.length := c.len
  have S : Wd.Sub ⟨H, mu, p :: xi⟩ ⟨H, mu ++ [p], xi⟩ := ⟨fun a u h => by
    obtain ⟨h1, h2, h3⟩ := Wd.fr_some.mp h
    refine Wd.fr_some.mpr ⟨fun q => ?_, fun q => h2 (List.mem_cons_of_mem _ q), h3⟩
    rcases List.mem_append.mp q with q | q
    · exact h1 q
    · exact h2 (by rw [List.mem_singleton.mp q]; exact List.mem_cons_self), List.prefix_append _ _⟩
  refine ⟨S, ⟨?_, ?_, fun a ha => ?_, fun a ha => c.hid a (List.mem_cons_of_mem _ ha), fun n a o h1 h2 => ?_⟩⟩
  · show (mu ++ [p]).Nodup
    rw [List.nodup_append]
    refine ⟨c.nd, List.pairwise_singleton _ _, fun x hx y hy e => ?_⟩
    rw [List.mem_singleton.mp hy] at e
    exact pm (by rw [← e]; exact hx)
  · show (st ++ [so]).length = (mu ++ [p]).length
    rw [List.length_append, List.length_append, hl]
    rfl
  · rcases List.mem_append.mp ha with ha | ha
    · exact fun q => c.apart a ha (List.mem_cons_of_mem _ q)
    · rw [List.mem_singleton.mp ha]
      exact np
  · have h1' : (mu ++ [p])[n]? = some a := h1
    by_cases hn : n < mu.length
    · rw [List.getElem?_append_left hn] at h1'
      rw [List.getElem?_append_left (by omega)] at h2
      obtain ⟨v, e, r⟩ := c.obj n a o h1' h2
      exact ⟨v, e, RelO.sub S r⟩
    · have hn' : n = mu.length := by
        have := (List.getElem?_eq_some_iff.mp h1').1
        rw [List.length_append] at this
        simp only [List.length_cons, List.length_nil] at this
        omega
      subst hn'
      have e1 : p = a := by simpa using h1'
      subst e1
      have e2 : so = o := by
        rw [← hl] at h2
        simpa using h2
      subst e2
      exact ⟨u, hp, RelO.sub S r⟩
theorem Res.bind_assoc {α β γ : Type} (r : Res α) (f : α → Sto → Res β) (g : β → Sto → Res γ) : (r.bind f).bind g = r.bind fun a s => (f a s).bind g := by
  cases r <;> rfl
/-- no exception leaves a comprehension -/
def noX {α : Type} : Res α → Res α
  | .ok a st => .ok a st
  | _ => .bad
def compR (rd : Nat → Sto → Option (Option D)) (g : GD) (t : M Bool) (me : M D) (env : Env) : Nat → Nat → List D → Sto → Res (List D)
  | 0, i, acc, st => match rd i st with
    | some none => .ok acc st
    | _ => .bad
  | n + 1, i, acc, st => match rd i st with
    | some none => .ok acc st
    | some (some d) => (match g d env with
      | some e1 => (noX (t e1 st)).bind fun b s1 => if b = true then (noX (me e1 s1)).bind fun y s2 => if Ok (acc.length < sizeLine) then compR rd g t me env n (i + 1) (acc ++ [y]) s2 else .bad
        else compR rd g t me env n (i + 1) acc s1
      | none => .bad)
    | none => .bad
/-- a list comprehension: its own names' slots vs -/
def eComp (lv : Bool) (mi : M Src) (g : GD) (t : M Bool) (me : M D) (vs : List Nat) : M D := fun env st => (mi env st).bind fun S s1 => (compR S.rd g t me (wipeD env vs) S.n 0 [] s1).bind fun acc s2 => mkL lv acc s2
abbrev noW : WX := fun _ _ _ _ => False
theorem tG_noX {α ν : Type} {K : PySem.W.Frag} {R : Wd → α → ν → Prop} {R' : Wd → D → V → Prop} {w w1 : Wd} {σ σ1 : L2.St} {Wx : WX} {Q : VK} {env : Env} {st : Sto} {ma : M α} {k : α → Sto → Res D}
    (re : REnv K w env σ1) (c : Corr K w st) (h : Post K R' w1 σ Wx Q ((noX (ma env st)).bind k)) :
    tG K R noW ma σ1 w.H fun v H1 => ∃ mu xi a st1, w.Le ⟨H1, mu, xi⟩ ∧ R ⟨H1, mu, xi⟩ a v ∧ Corr K ⟨H1, mu, xi⟩ st1 ∧ REnv K ⟨H1, mu, xi⟩ env σ1 ∧ Post K R' w1 σ Wx Q (k a st1) := by
  refine ⟨w.mu, w.xi, env, st, re, c, ?_⟩
  cases e : ma env st with
  | ok a st1 =>
    rw [e] at h
    exact fun w' v l r c' => ⟨w'.mu, w'.xi, a, st1, l, r, c', re.le l, h⟩
  | exc k fs xs st1 =>
    rw [e] at h
    exact h.elim
  | bad =>
    rw [e] at h
    exact h
theorem lc_imp {lv : Bool} {own : List (Str × Nat)} {mi : M Src} {g : GD} {us : List Nat} {t : M Bool} {me : M D} (hus : ∀ i ∈ us, i ∈ own.map (·.2)) {σ : L2.St} {H : Hp} {Q : VK} (h : tE X.K Wx (eComp lv mi g t me (own.map (·.2))) σ H Q) :
    tLc (tG X.K (Wk X.K) Wx mi) (tGt X.K g us) (tT X.K noW t) (tE X.K noW me) (own.map (·.2)) σ H Q := by
  obtain ⟨mu, xi, env, st, re, c, h⟩ := h
  refine tG_mono (tG_bind (R := Wk X.K) re c h) fun J H1 ⟨mu1, xi1, S, st1, l1, wk, c1, re1, p1⟩ => ?_
  intro q hq
  obtain ⟨S1, c2⟩ := hide c1 (.lst []) hq
  have qx : q ∉ xi1 := fun h => by
    obtain ⟨u, e⟩ := c1.hid q h
    have e' : H1 q = some u := e
    rw [hq] at e'
    cases e'
  refine ⟨fun i k H => ∃ mu st acc av, Wd.Le ⟨H1, mu1, xi1⟩ ⟨H, mu, xi1⟩ ∧ Wd.Sub ⟨H1, mu1, xi1⟩ ⟨H, mu, q :: xi1⟩ ∧ Corr X.K ⟨H, mu, q :: xi1⟩ st ∧ H q = some (.lst av) ∧ Rels X.K ⟨H, mu, q :: xi1⟩ acc av ∧
    Post X.K (Rel X.K) ⟨H1, mu1, xi1⟩ σ Wx Q ((compR S.rd g t me (wipeD env (own.map (·.2))) k i acc st).bind fun acc s2 => mkL lv acc s2), ⟨S.n, mu1, st1, [], [], ?_, S1, c2, upd_same, .nil, p1⟩, ?_⟩
  · refine ⟨⟨fun a o h => ?_, List.prefix_rfl⟩, rfl, fun a ha => ?_⟩
    · obtain ⟨h1, h2, h3⟩ := Wd.fr_some.mp h
      refine Wd.fr_some.mpr ⟨h1, h2, ?_⟩
      show upd H1 q (.lst []) a = some o
      rw [upd_ne fun e => by
        have h3' : H1 a = some o := h3
        rw [e, hq] at h3'
        cases h3']
      exact h3
    · show upd H1 q (.lst []) a = H1 a
      exact upd_ne fun e => qx (by rw [← e]; exact ha)
  · rintro i k H ⟨mu, st, acc, av, l, S2, c, hD, ra, p⟩
    obtain ⟨S3, c3⟩ := show_again c
    obtain ⟨ws, wg⟩ := wk i ⟨H, mu, q :: xi1⟩ st S2 c
    have done : S.rd i st = some none → Post X.K (Rel X.K) ⟨H1, mu1, xi1⟩ σ Wx Q (mkL lv acc st) → J.stop i H ∧ Q (.ref q) H := fun er p => by
      refine ⟨ws er, ?_⟩
      cases lv with
      | false =>
        have p2 : Post X.K (Rel X.K) ⟨H1, mu1, xi1⟩ σ Wx Q (.ok (.lst acc) st) := p
        refine p2 ⟨H, mu, xi1⟩ (.ref q) l ?_ c3
        unfold Rel
        exact ⟨q, av, rfl, Wd.fr_some.mpr ⟨fun h => c.apart q h List.mem_cons_self, qx, hD⟩, Rels.sub S3 _ _ ra⟩
      | true =>
        have p2 : Post X.K (Rel X.K) ⟨H1, mu1, xi1⟩ σ Wx Q (.ok (.ref st.length) (st ++ [.lst acc])) := p
        obtain ⟨S4, c4⟩ := show_live c qx hD (so := .lst acc) ⟨av, rfl, ra⟩
        refine p2 ⟨H, mu ++ [q], xi1⟩ (.ref q) ⟨S2.trans S4, rfl, l.hid⟩ ?_ c4
        unfold Rel
        refine ⟨q, rfl, ?_⟩
        have hl : st.length = mu.length := c.len
        show (mu ++ [q])[st.length]? = some q
        rw [hl]
        simp
    cases er : S.rd i st with
    | none =>
      cases k with
      | zero =>
        unfold compR at p
        rw [er] at p
        exact p.elim
      | succ k =>
        unfold compR at p
        rw [er] at p
        exact p.elim
    | some od =>
      cases od with
      | none =>
        cases k with
        | zero =>
          unfold compR at p
          rw [er] at p
          exact .inl (done er p)
        | succ k =>
          unfold compR at p
          rw [er] at p
          exact .inl (done er p)
      | some d =>
        cases k with
        | zero =>
          unfold compR at p
          rw [er] at p
          exact p.elim
        | succ k =>
          unfold compR at p
          rw [er] at p
          obtain ⟨g1, g2⟩ := wg d er
          refine .inr ⟨g1, fun H => ∃ mu st acc av, Wd.Le ⟨H1, mu1, xi1⟩ ⟨H, mu, xi1⟩ ∧ Wd.Sub ⟨H1, mu1, xi1⟩ ⟨H, mu, q :: xi1⟩ ∧ Corr X.K ⟨H, mu, q :: xi1⟩ st ∧ H q = some (.lst av) ∧ Rels X.K ⟨H, mu, q :: xi1⟩ acc av ∧
            Post X.K (Rel X.K) ⟨H1, mu1, xi1⟩ σ Wx Q ((compR S.rd g t me (wipeD env (own.map (·.2))) k (i + 1) acc st).bind fun acc s2 => mkL lv acc s2), fun H' q => ⟨k, Nat.lt_succ_self k, q⟩, fun x H' y => ?_⟩
          obtain ⟨eh, r2⟩ := g2 x H' y
          obtain ⟨l2, c2⟩ := c.more eh
          have l3 : Wd.Le ⟨H, mu, xi1⟩ ⟨H', mu, xi1⟩ := (c3.more eh).1
          dsimp only at p
          cases eg : g d (wipeD env (own.map (·.2))) with
          | none =>
            rw [eg] at p
            exact p.elim
          | some e1 =>
            rw [eg] at p
            dsimp only at p
            have reW : REnv X.K ⟨H', mu, q :: xi1⟩ (wipeD env (own.map (·.2))) (L2.wipe σ (own.map (·.2))) := (re1.sub (S2.trans l2.sub)).wipe _
            refine ⟨mu, q :: xi1, _, st, d, e1, reW, c2, r2, eg, fun σ2 re2 kp => ⟨?_, ?_⟩⟩
            · have kw : L2.wipe σ2 (own.map (·.2)) = L2.wipe (L2.wipe σ (own.map (·.2))) (own.map (·.2)) := Keeps.wipe ⟨kp.1, fun j hj => kp.2 j fun z => hj (hus j z)⟩
              rw [kw]
              exact Keeps.wipe ⟨wipe_length _ _, fun j hj => wipe_out hj⟩
            · rw [Res.bind_assoc] at p
              refine tG_mono (tG_noX (R := RB) re2 c2 p) fun bv H3 ⟨mu3, xi3, b3, st3, l4, r4, c4, re4, p4⟩ => ?_
              cases r4
              have ex3 : xi3 = q :: xi1 := l4.xi
              subst ex3
              have hD3 : H3 q = some (.lst av) := (l4.hid q List.mem_cons_self).trans (eh q _ hD)
              have L3 : Wd.Le ⟨H1, mu1, xi1⟩ ⟨H3, mu3, xi1⟩ := by
                refine ⟨(S2.trans l2.sub).trans (l4.sub.trans (show_again c4).1), rfl, fun a ha => ?_⟩
                have h1 := l.hid a ha
                have h2 := l3.hid a ha
                have h3 := l4.hid a (List.mem_cons_of_mem _ ha)
                exact h3.trans (h2.trans h1)
              have S3' : Wd.Sub ⟨H1, mu1, xi1⟩ ⟨H3, mu3, q :: xi1⟩ := (S2.trans l2.sub).trans l4.sub
              cases bv with
              | false =>
                rw [if_neg Bool.false_ne_true] at p4 ⊢
                exact ⟨mu3, st3, acc, av, L3, S3', c4, hD3, (Rels.sub l2.sub _ _ ra).le l4, p4⟩
              | true =>
                rw [if_pos rfl] at p4 ⊢
                rw [Res.bind_assoc] at p4
                refine tG_mono (tG_noX (R := Rel X.K) re4 c4 p4) fun yv H4 ⟨mu4, xi4, y4, st4, l5, r5, c5, re5, p5⟩ => ?_
                have ex4 : xi4 = q :: xi1 := l5.xi
                subst ex4
                have hD4 : H4 q = some (.lst av) := (l5.hid q List.mem_cons_self).trans hD3
                by_cases hz : Ok (acc.length < sizeLine)
                · rw [if_pos hz] at p5
                  have ra4 : Rels X.K ⟨H4, mu4, q :: xi1⟩ acc av := ((Rels.sub l2.sub _ _ ra).le l4).le l5
                  obtain ⟨S6, c6⟩ := change_hid c5 (.lst (av ++ [yv])) (p := q) List.mem_cons_self
                  refine ⟨av, hD4, by rw [← ra.length]; exact hz, mu4, st4, acc ++ [y4], av ++ [yv], ⟨(S3'.trans l5.sub).trans (S6.trans (show_again c6).1), rfl, fun a ha => ?_⟩, (S3'.trans l5.sub).trans S6, c6, upd_same, Rels.sub S6 _ _ (ra4.append (.cons r5 .nil)), p5⟩
                  show upd H4 q (.lst (av ++ [yv])) a = H1 a
                  rw [upd_ne fun e => qx (by rw [← e]; exact ha)]
                  exact (l5.hid a (List.mem_cons_of_mem _ ha)).trans (L3.hid a ha)
                · rw [if_neg hz] at p5
                  exact p5.elim
theorem ce_lc {lv : Bool} {iter elt : Expr} {ifs : List Expr} {scope : Scope} {own : List (Str × Nat)} {mi : M Src} {g : GD} {us : List Nat} {t : M Bool} {me : M D} (vs : List Nat) (hc : X.calm = true) (hN : X.N.Nodup) (hi : CI X Wx tg iter mi) (ok : BlkOk X.N X.env.scope scope own)
    (hg : ∀ (s : Shared) (H : Hp) (C : Addr) (cl : List (Str × Addr)) (fp : List Addr), CG (X.blk s H scope (compEnvC scope cl C X.env) fp) tg g us)
    (ht : ∀ (s : Shared) (H : Hp) (C : Addr) (cl : List (Str × Addr)) (fp : List Addr), PTs (X.blk s H scope (compEnvC scope cl C X.env) fp) ifs (tT X.K noW t))
    (he : ∀ (s : Shared) (H : Hp) (C : Addr) (cl : List (Str × Addr)) (fp : List Addr), CE (X.blk s H scope (compEnvC scope cl C X.env) fp) noW elt me)
    (hvs : own.map (·.2) = vs := by rfl) (hus : ∀ i ∈ us, i ∈ vs := by decide) (hs : ∀ x, foldedSetIterable iter X.env x = pure x := by intro _; rfl) :
    CE X Wx (.ListComp elt [⟨tg, iter, ifs, 0⟩] scope pos) (eComp lv mi g t me vs) := by
  subst hvs
  exact PE.mono (pe_lc (g := tGt X.K g us) (tt := tT X.K noW t) (te := tE X.K noW me) hc hN hi ok hg ht he hs) fun σ H Q h => lc_imp hus h
/-- x = [..] on one line -/
theorem cs_setLc (i : Nat) {y : Str} {py spos : Pos} {lv : Bool} {iter elt : Expr} {ifs : List Expr} {scope : Scope} {own : List (Str × Nat)} {mi : M Src} {g : GD} {us : List Nat} {t : M Bool} {me : M D} (vs : List Nat) (hc : X.calm = true) (hN : X.N.Nodup) (hi : CI X Wx tg iter mi) (ok : BlkOk X.N X.env.scope scope own)
    (hg : ∀ (s : Shared) (H : Hp) (C : Addr) (cl : List (Str × Addr)) (fp : List Addr), CG (X.blk s H scope (compEnvC scope cl C X.env) fp) tg g us)
    (ht : ∀ (s : Shared) (H : Hp) (C : Addr) (cl : List (Str × Addr)) (fp : List Addr), PTs (X.blk s H scope (compEnvC scope cl C X.env) fp) ifs (tT X.K noW t))
    (he : ∀ (s : Shared) (H : Hp) (C : Addr) (cl : List (Str × Addr)) (fp : List Addr), CE (X.blk s H scope (compEnvC scope cl C X.env) fp) noW elt me)
    (hy : X.N[i]? = some y := by rfl) (hyl : X.env.scope.names.lookup y = some .local := by rfl) (hsw : swapsWith (.ListComp elt [⟨tg, iter, ifs, 0⟩] scope pos) (some (.Name y py)) spos.line X.env = pure true := by rfl)
    (hvs : own.map (·.2) = vs := by rfl) (hus : ∀ i ∈ us, i ∈ vs := by decide) (hs : ∀ x, foldedSetIterable iter X.env x = pure x := by intro _; rfl) :
    CS X Wx (.Assign [.Name y py] (.ListComp elt [⟨tg, iter, ifs, 0⟩] scope pos) spos) (sSet i (eComp lv mi g t me vs)) := by
  subst hvs
  refine PS.mono (ps_setLc (g := tGt X.K g us) (tt := tT X.K noW t) (te := tE X.K noW me) hc hN hy hyl hsw hi ok hg ht he hs) fun E σ H h => ?_
  obtain ⟨mu, xi, env, st, re, c, h⟩ := h
  exact lc_imp hus (tG_mono (tG_bindS (R := Rel X.K) re c h) fun v H1 ⟨mu1, xi1, d, st1, l1, r1, c1, re1, p1⟩ => p1 ⟨H1, mu1, xi1⟩ _ (.refl _) (re1.set i r1) c1)
end
end ND
end
noncomputable section
namespace ND
open PySem L2 PyProof.Rows
section
variable {X : Cx} {Wx : WX} {a b c e o tg : Expr} {es : List Expr} {ma mb mc me mo : M D} {ms : M (List D)} {pos p2 p apos cpos tpos : Pos}
/-! ### a comprehension's tests -/
def bYes : M Bool := fun _ st => .ok true st
theorem PTs.mono {ifs : List Expr} {t t' : TT} (h : PTs X ifs t) (i : ∀ σ H Q, t' σ H Q → t σ H Q) : PTs X ifs t' := ⟨fun pins s σ H Q I q => h.run pins s σ H Q I (i σ H Q q)⟩
theorem cts_nil : PTs X [] (tT X.K Wx bYes) := PTs.mono pts_nil fun σ H Q h => by
  obtain ⟨mu, xi, env, st, re, c, h⟩ := h
  exact h ⟨H, mu, xi⟩ true (.refl _) rfl c
theorem cts_one {t : M Bool} (h : CT X Wx a t) : PTs X [a] (tT X.K Wx t) := pts_one h

/-! ### methods of lists -/
abbrev BM : Type := D → List D → Sto → Res D
def eBM (g : BM) (mo : M D) (ms : M (List D)) : M D := fun env st => (mo env st).bind fun x s1 => match seqL s1 x with
  | some _ => (ms env s1).bind fun ds s2 => g x ds s2
  | none => .bad
theorem ce_bmL {g : BM} {name : Str} {id : String} {r : V → List V → Hp → VK → Prop} (slot : Slot "list" name id) (hty : typeOf (.builtin id) = pure (.type "method_descriptor")) (hm : MtR X id r)
    (sd : ∀ (w : Wd) (σ : L2.St) (st : Sto) (x : D) (ds : List D) (vx : V) (vs : List V) (Q : VK), Corr X.K w st → Rel X.K w x vx → Rels X.K w ds vs → Post X.K (Rel X.K) w σ Wx Q (g x ds st) → r vx vs w.H Q)
    (ho : CE X Wx o mo) (ha : CA X Wx (e :: es) ms) (hbase : attributeBase o name X.env (eval o X.env) = eval o X.env := by rfl)
    (hfew : ((backTo cpos (starEach (e :: es) X.env)).all (fun x => !x.1) && (backToKw cpos (keywordEach [] X.env)).all (fun x => x.1.isSome)
      && decide ((e :: es).length + ([] : List Keyword).length + (if ([] : List Keyword).isEmpty then 0 else 1) < 30)) = true := by rfl)
    (hline : (apos.endLine == cpos.line) = true := by rfl) (hs : starEach (e :: es) X.env = (false, eval e X.env) :: starEach es X.env := by rfl) (hplain : (backTo cpos (starEach es X.env)).any (·.1) = false := by rfl) :
    CE X Wx (.Call (.Attribute o name apos) (e :: es) [] cpos) (eBM g mo ms) := PE.mono (pe_bm PySem.F.plainAttrs_list slot hty hm ho ha hbase hfew hline hs hplain) fun σ H Q h => by
  obtain ⟨mu, xi, env, st, re, c, h⟩ := h
  refine tG_mono (tG_bind (R := Rel X.K) re c h) fun v H1 ⟨mu1, xi1, d, st1, l1, r1, c1, re1, p1⟩ => ?_
  cases es : seqL st1 d with
  | none =>
    rw [es] at p1
    exact p1.elim
  | some xs =>
    rw [es] at p1
    obtain ⟨a1, v1, ea, q1, s1⟩ := seqL_ok c1 r1 es
    subst ea
    refine ⟨.inl ⟨rfl, _, q1⟩, ?_⟩
    exact tG_mono (tG_bind (R := Rels X.K) re1 c1 p1) fun vs H2 ⟨mu2, xi2, ds, st2, l2, r2, c2, re2, p2⟩ => sd ⟨H2, mu2, xi2⟩ σ st2 d ds _ vs Q c2 (r1.le l2) r2 p2
theorem ce_bmL0 {g : BM} {name : Str} {id : String} {r : V → List V → Hp → VK → Prop} (slot : Slot "list" name id) (hty : typeOf (.builtin id) = pure (.type "method_descriptor")) (hm : MtR X id r)
    (sd : ∀ (w : Wd) (σ : L2.St) (st : Sto) (x : D) (ds : List D) (vx : V) (vs : List V) (Q : VK), Corr X.K w st → Rel X.K w x vx → Rels X.K w ds vs → Post X.K (Rel X.K) w σ Wx Q (g x ds st) → r vx vs w.H Q)
    (ho : CE X Wx o mo) (hbase : attributeBase o name X.env (eval o X.env) = eval o X.env := by rfl) (hline : (apos.endLine == cpos.line) = true := by rfl) :
    CE X Wx (.Call (.Attribute o name apos) [] [] cpos) (eBM g mo aNil) := PE.mono (pe_bm0 PySem.F.plainAttrs_list slot hty hm ho hbase hline) fun σ H Q h => by
  obtain ⟨mu, xi, env, st, re, c, h⟩ := h
  refine tG_mono (tG_bind (R := Rel X.K) re c h) fun v H1 ⟨mu1, xi1, d, st1, l1, r1, c1, re1, p1⟩ => ?_
  cases es : seqL st1 d with
  | none =>
    rw [es] at p1
    exact p1.elim
  | some xs =>
    rw [es] at p1
    obtain ⟨a1, v1, ea, q1, s1⟩ := seqL_ok c1 r1 es
    subst ea
    exact ⟨.inl ⟨rfl, _, q1⟩, sd ⟨H1, mu1, xi1⟩ σ st1 d [] _ [] Q c1 r1 .nil p1⟩
/-- a live list's items -/
def liveL (st : Sto) : D → Option (Nat × List D)
  | .ref n => match st[n]? with
    | some (.lst xs) => some (n, xs)
    | _ => none
  | _ => none
theorem liveL_ok {K : PySem.W.Frag} {w : Wd} {st : Sto} {d : D} {v : V} {n : Nat} {xs : List D} (c : Corr K w st) (r : Rel K w d v) (h : liveL st d = some (n, xs)) : ∃ a vs, v = .ref a ∧ w.H a = some (.lst vs) ∧ Rels K w xs vs ∧ w.mu[n]? = some a ∧ n < st.length := by
  cases d with
  | ref m =>
    unfold Rel at r
    obtain ⟨a, e, q⟩ := r
    have h2 : (match st[m]? with
      | some (.lst xs) => some (m, xs)
      | _ => none) = some (n, xs) := h
    split at h2
    · rename_i ys hy
      cases h2
      obtain ⟨u, hu, vs, e2, s⟩ := c.obj _ a _ q hy
      subst e2
      exact ⟨a, vs, e, hu, s, q, (List.getElem?_eq_some_iff.mp hy).1⟩
    · cases h2
  | _ => cases h
def setO (st : Sto) (n : Nat) (ys : List D) : Sto := st.set n (.lst ys)
theorem post_set {w : Wd} {σ : L2.St} {st : Sto} {n : Nat} {q : Addr} {ys : List D} {vs : List V} {d : D} {v : V} {Q : VK} (c : Corr X.K w st) (hn : w.mu[n]? = some q) (hl : n < st.length) (r : Rels X.K w ys vs) (rd : Rel X.K w d v) (h : Post X.K (Rel X.K) w σ Wx Q (.ok d (setO st n ys))) : Q v (upd w.H q (.lst vs)) := by
  obtain ⟨l, c'⟩ := c.set (o := .lst vs) (so := .lst ys) hn hl ⟨vs, rfl, r⟩
  exact h _ v l (rd.le l) c'
theorem rel_nonV {K : PySem.W.Frag} (w : Wd) : Rel K w .non .non := by unfold Rel; rfl
def appendD : BM := fun x ds st => match liveL st x, ds with
  | some (n, xs), [y] => if Ok (xs.length < sizeLine) then .ok .non (setO st n (xs ++ [y])) else .bad
  | _, _ => .bad
theorem ce_append (ho : CE X Wx o mo) (ha : CE X Wx a ma) (hbase : attributeBase o "append" X.env (eval o X.env) = eval o X.env := by rfl)
    (hfew : ((backTo cpos (starEach [a] X.env)).all (fun x => !x.1) && (backToKw cpos (keywordEach [] X.env)).all (fun x => x.1.isSome)
      && decide ([a].length + ([] : List Keyword).length + (if ([] : List Keyword).isEmpty then 0 else 1) < 30)) = true := by rfl)
    (hline : (apos.endLine == cpos.line) = true := by rfl) (hs : starEach [a] X.env = (false, eval a X.env) :: starEach [] X.env := by rfl) : CE X Wx (.Call (.Attribute o "append" apos) [a] [] cpos) (eBM appendD mo (aCons ma aNil)) :=
  ce_bmL PySem.F.slot_list_append PySem.F.type_list_append mt_append (fun w σ st x ds vx vs Q c rx rs h => by
    unfold appendD at h
    split at h
    · rename_i n xs y e1
      split at h
      · rename_i hz
        obtain ⟨q, us, eq, hq, s, hn, hl⟩ := liveL_ok c rx e1
        obtain ⟨u, eu, ru⟩ := rs.one
        exact ⟨q, us, u, eq, eu, hq, by rw [← s.length]; exact hz, post_set c hn hl (s.append (.cons ru .nil)) (rel_nonV w) h⟩
      · exact h.elim
    · exact h.elim) ho (ca_cons ha ca_nil hs) hbase hfew hline hs rfl
def extendD : BM := fun x ds st => match liveL st x, ds with
  | some (n, xs), [y] => (match y with
    | .ext _ => .bad
    | _ => match seqL st y with
      | some ys => if Ok (xs.length + ys.length ≤ sizeLine) then .ok .non (setO st n (xs ++ ys)) else .bad
      | none => .bad)
  | _, _ => .bad
theorem seqL_trk {K : PySem.W.Frag} {w : Wd} {st : Sto} {d : D} {v : V} {xs : List D} (c : Corr K w st) (r : Rel K w d v) (h : seqL st d = some xs) (hx : ∀ ns, d ≠ .ext ns) : ∃ a vs, v = .ref a ∧ w.H a = some (.lst vs) ∧ Rels K w xs vs := by
  cases d with
  | lst ys =>
    have e : ys = xs := Option.some.inj h
    subst e
    unfold Rel at r
    obtain ⟨a, vs, e, q, s⟩ := r
    exact ⟨a, vs, e, fr_here q, s⟩
  | ref n =>
    unfold Rel at r
    obtain ⟨a, e, q⟩ := r
    have h2 : (match st[n]? with
      | some (.lst xs) => some xs
      | _ => none) = some xs := h
    split at h2
    · rename_i ys hy
      have e2 : ys = xs := Option.some.inj h2
      subst e2
      obtain ⟨u, hu, vs, rfl, s⟩ := c.obj n a _ q hy
      exact ⟨a, vs, e, hu, s⟩
    · cases h2
  | ext ns => exact absurd rfl (hx ns)
  | _ => cases h
theorem ce_extend (ho : CE X Wx o mo) (ha : CE X Wx a ma) (hbase : attributeBase o "extend" X.env (eval o X.env) = eval o X.env := by rfl)
    (hfew : ((backTo cpos (starEach [a] X.env)).all (fun x => !x.1) && (backToKw cpos (keywordEach [] X.env)).all (fun x => x.1.isSome)
      && decide ([a].length + ([] : List Keyword).length + (if ([] : List Keyword).isEmpty then 0 else 1) < 30)) = true := by rfl)
    (hline : (apos.endLine == cpos.line) = true := by rfl) (hs : starEach [a] X.env = (false, eval a X.env) :: starEach [] X.env := by rfl) : CE X Wx (.Call (.Attribute o "extend" apos) [a] [] cpos) (eBM extendD mo (aCons ma aNil)) :=
  ce_bmL PySem.F.slot_list_extend PySem.F.type_list_extend mt_extend (fun w σ st x ds vx vs Q c rx rs h => by
    unfold extendD at h
    split at h
    · rename_i n xs y e1
      split at h
      · exact h.elim
      · rename_i hy
        split at h
        · rename_i ys e2
          split at h
          · rename_i hz
            obtain ⟨q, us, eq, hq, s, hn, hl⟩ := liveL_ok c rx e1
            obtain ⟨u, eu, ru⟩ := rs.one
            obtain ⟨q2, us2, eq2, hq2, s2⟩ := seqL_trk c ru e2 (fun ns e => hy ns e)
            subst eq2
            exact ⟨q, q2, us, us2, eq, eu, hq, hq2, by rw [← s.length, ← s2.length]; exact hz, post_set c hn hl (s.append s2) (rel_nonV w) h⟩
          · exact h.elim
        · exact h.elim
    · exact h.elim) ho (ca_cons ha ca_nil hs) hbase hfew hline hs rfl
def popD : BM := fun x ds st => match liveL st x, ds with
  | some (n, xs), [] => (match xs[xs.length - 1]? with
    | some y => .ok y (setO st n xs.dropLast)
    | none => .bad)
  | _, _ => .bad
theorem Rels.dropLast {K : PySem.W.Frag} {w : Wd} {d : List D} {v : List V} (r : Rels K w d v) : Rels K w d.dropLast v.dropLast := by
  rw [List.dropLast_eq_take, List.dropLast_eq_take, ← r.length]
  exact r.take _
theorem ce_pop (ho : CE X Wx o mo) (hbase : attributeBase o "pop" X.env (eval o X.env) = eval o X.env := by rfl) (hline : (apos.endLine == cpos.line) = true := by rfl) : CE X Wx (.Call (.Attribute o "pop" apos) [] [] cpos) (eBM popD mo aNil) :=
  ce_bmL0 PySem.F.slot_list_pop PySem.F.type_list_pop mt_pop (fun w σ st x ds vx vs Q c rx rs h => by
    unfold popD at h
    split at h
    · rename_i n xs e1
      split at h
      · rename_i y e2
        obtain ⟨q, us, eq, hq, s, hn, hl⟩ := liveL_ok c rx e1
        unfold Rels at rs
        obtain ⟨u, hu, ru⟩ := s.get e2
        exact ⟨q, us, u, eq, rs, hq, by rw [← s.length]; exact hu, post_set c hn hl s.dropLast ru h⟩
      · exact h.elim
    · exact h.elim) ho hbase hline
def reverseD : BM := fun x ds st => match liveL st x, ds with
  | some (n, xs), [] => .ok .non (setO st n xs.reverse)
  | _, _ => .bad
theorem ce_reverse (ho : CE X Wx o mo) (hbase : attributeBase o "reverse" X.env (eval o X.env) = eval o X.env := by rfl) (hline : (apos.endLine == cpos.line) = true := by rfl) : CE X Wx (.Call (.Attribute o "reverse" apos) [] [] cpos) (eBM reverseD mo aNil) :=
  ce_bmL0 PySem.F.slot_list_reverse PySem.F.type_list_reverse mt_reverse (fun w σ st x ds vx vs Q c rx rs h => by
    unfold reverseD at h
    split at h
    · rename_i n xs e1
      obtain ⟨q, us, eq, hq, s, hn, hl⟩ := liveL_ok c rx e1
      unfold Rels at rs
      exact ⟨q, us, eq, rs, hq, post_set c hn hl s.reverse (rel_nonV w) h⟩
    · exact h.elim) ho hbase hline
def clearD : BM := fun x ds st => match liveL st x, ds with
  | some (n, _), [] => .ok .non (setO st n [])
  | _, _ => .bad
theorem ce_clear (ho : CE X Wx o mo) (hbase : attributeBase o "clear" X.env (eval o X.env) = eval o X.env := by rfl) (hline : (apos.endLine == cpos.line) = true := by rfl) : CE X Wx (.Call (.Attribute o "clear" apos) [] [] cpos) (eBM clearD mo aNil) :=
  ce_bmL0 PySem.F.slot_list_clear PySem.F.type_list_clear mt_clear (fun w σ st x ds vx vs Q c rx rs h => by
    unfold clearD at h
    split at h
    · rename_i n xs e1
      obtain ⟨q, us, eq, hq, s, hn, hl⟩ := liveL_ok c rx e1
      unfold Rels at rs
      exact ⟨q, us, eq, rs, hq, post_set c hn hl .nil (rel_nonV w) h⟩
    · exact h.elim) ho hbase hline

/-! ### making; a class of the module called -/
theorem ce_make {lv : Nat} {k : String} {kn : Str} {F : DF} {live : Bool} (G : MkD X.prog X.w X.K X.mg X.base lv k F) (hr : Room (lv + 1) X.A) (tk : Takes X Wx) (ha : CA X Wx (e :: es) ms) (en : kn = Str.ofString k := by rfl) (hg : Gl X kn := by rfl) (hdb : (kn == ("__debug__" : Str)) = false := by decide)
    (he : starEach (e :: es) X.env = (false, eval e X.env) :: starEach es X.env := by rfl) (hpl : (backTo pos (starEach es X.env)).any (·.1) = false := by rfl) : CE X Wx (.Call (.Name kn p) (e :: es) [] pos) (eC (mkI k F live) ms) := by
  subst en
  refine ⟨fun pins s σ H Q I h => ?_⟩
  obtain ⟨mu, xi, env, st, re, c, h⟩ := h
  obtain ⟨f, mk, G'⟩ := id G.ex
  refine wpAny_Call_Name_kw (ld_glob I hg G.glo ?_ hdb)
  refine PySem.W.callWith_K (h₀ := X.base) I.ok.mod.kin mk.kp (thn (ha.run pos pins s σ H _ I (tG_bind (R := Rels X.K) re c h)) fun us s1 ⟨vs, H1, I1, rv, mu1, xi1, d, st1, l1, r1, c1, re1, p1⟩ => ⟨I1.kIn, ?_⟩) he hpl
  exact mk_callD G hr tk pins s1 σ ⟨H1, mu1, xi1⟩ st1 d vs us Q I1 c1 r1 rv p1
theorem ce_make0 {lv : Nat} {k : String} {kn : Str} {F : DF} {live : Bool} (G : MkD X.prog X.w X.K X.mg X.base lv k F) (hr : Room (lv + 1) X.A) (tk : Takes X Wx) (en : kn = Str.ofString k := by rfl) (hg : Gl X kn := by rfl) (hdb : (kn == ("__debug__" : Str)) = false := by decide) : CE X Wx (.Call (.Name kn p) [] [] pos) (eC0 (mkI k F live)) := by
  subst en
  refine ⟨fun pins s σ H Q I h => ?_⟩
  obtain ⟨mu, xi, env, st, re, c, h⟩ := h
  obtain ⟨f, mk, G'⟩ := id G.ex
  refine wpAny_Call_Name_kw (ld_glob I hg G.glo ?_ hdb)
  exact PySem.W.callWith_K0 I.kIn mk.kp (mk_callD G hr tk pins s σ ⟨H, mu, xi⟩ st [] [] [] Q I c .nil .nil h)

/-! ### stars -/
def aStar (m : M D) (ms : M (List D)) : M (List D) := fun env st => (m env st).bind fun d s1 => match seqX s1 d with
  | some xs => (ms env s1).bind fun ds s2 => .ok (xs ++ ds) s2
  | none => .bad
theorem ca_star {ep : Pos} (ha : CE X Wx e me) (hr : CA X Wx es ms) (hs : starEach (.Starred e ep :: es) X.env = (true, eval e X.env) :: starEach es X.env := by rfl) : CA X Wx (.Starred e ep :: es) (aStar me ms) := PA.mono (StX.pa_star ha hr hs) fun σ H Q h => by
  obtain ⟨mu, xi, env, st, re, c, h⟩ := h
  refine tG_mono (tG_bind (R := Rel X.K) re c h) fun v H1 ⟨mu1, xi1, d, st1, l1, r1, c1, re1, p1⟩ => ?_
  cases es : seqX st1 d with
  | none =>
    rw [es] at p1
    exact p1.elim
  | some xs =>
    rw [es] at p1
    obtain ⟨a1, v1, ea, q1, s1⟩ := seqX_ok c1 r1 es
    refine ⟨a1, v1, ea, q1.symm, ?_⟩
    exact tG_mono (tG_bind (R := Rels X.K) re1 c1 p1) fun vs H2 ⟨mu2, xi2, ds, st2, l2, r2, c2, re2, p2⟩ => p2 ⟨H2, mu2, xi2⟩ _ (.refl _) ((s1.le l2).append r2) c2
/-- f(*y) -/
def eStar1 (F : DF) (m : M D) : M D := fun env st => (m env st).bind fun d s1 => match seqX s1 d with
  | some xs => F xs s1
  | none => .bad
theorem ce_callS1 {lv : Nat} {x : Str} {F : DF} {ep : Pos} (G : FnG X.prog X.w X.K X.mg X.base lv x F) (hr : Room lv X.A) (tk : Takes X Wx) (he : CE X Wx e me) (hg : Gl X x := by rfl) (hdb : (x == ("__debug__" : Str)) = false := by decide)
    (hst : starEach [.Starred e ep] X.env = [(true, eval e X.env)] := by rfl) : CE X Wx (.Call (.Name x p) [.Starred e ep] [] pos) (eStar1 F me) := by
  refine ⟨fun pins s σ H Q I h => ?_⟩
  obtain ⟨mu, xi, env, st, re, c, h⟩ := h
  obtain ⟨f, hm, G⟩ := G.ex
  refine wpAny_Call_Name_kw (ld_glob I hg hm ?_ hdb)
  refine PySem.W.callWith_S (h₀ := X.base) I.ok.mod.kin G.kp (thn (he.run pins s σ H _ I (tG_bind (R := Rel X.K) re c h)) fun v s1 ⟨y, H1, I1, ry, mu1, xi1, d, st1, l1, r1, c1, re1, p1⟩ => ?_) hst
  cases es : seqX st1 d with
  | none =>
    rw [es] at p1
    exact p1.elim
  | some xs =>
    rw [es] at p1
    obtain ⟨a1, v1, ea, q1, s1'⟩ := seqX_ok c1 r1 es
    subst ea
    obtain rfl : v = Value.ref a1 := ry
    exact StX.star_any I1 q1.symm fun us s2 I2 rv => ⟨I2.kIn, G.run (w := ⟨H1, mu1, xi1⟩) hr tk I2 c1 s1' rv p1⟩
end
/-- def f(*v) -/
noncomputable def fnStar (N : Nat) (lv : Bool) (body : MS) : DF := fun ds st => if Ok (ds.length ≤ sizeLine) then fnEnd lv st (body (some (.tup ds) :: List.replicate (N - 1) none) st) else .bad
theorem fnd_star {P : Program} {w : World} {K : PySem.W.Frag} {mg : Str → Option Value} {base : Heap} {k : Nat} {x qual : Str} {params : Arguments} {body : List Stmt} {scope : Scope} {f : Addr} {fd : FuncData} {N : List Str} {pv : Str} {lv : Bool} {m : MS}
    (F : FunD K x qual params body scope [] [] f fd) (S : FnScope N [pv] scope)
    (hb : ∀ (kV doc pm : Value) (an : Option Addr) (cdv ct : Value) (rest : List Value), bindArgs (PySem.W.fnOf x qual params body scope .none kV doc pm an cdv ct) ⟨rest, []⟩ = (newTuple rest >>= fun t => pure [(pv, t)]))
    (hbody : ∀ (cdv : Value) (A : Around) (outer : List PySem.Env) (s : Shared) (H : Hp) (E : XK), Room k (A.deeper (envOfC qual scope s.heap.objs.size f cdv)) → Takes (cxOf (L2.CX P w) P w K mg base N qual scope f cdv A outer s H E) (WXe E) →
      PassesOwn (model P w) (A.deeper (envOfC qual scope s.heap.objs.size f cdv)) (envOfC qual scope s.heap.objs.size f cdv) (cxOf (L2.CX P w) P w K mg base N qual scope f cdv A outer s H E).xe →
      CSs (cxOf (L2.CX P w) P w K mg base N qual scope f cdv A outer s H E) (WXe E) body m) : FnD P w K mg base (k + 1) f (fnStar N.length lv m) := by
  refine ⟨?_, F.kp⟩
  obtain ⟨oc, od, dV, kV, doc, pm, an, cdv, ct, osl, rfl, lk, hcd, hD, hK⟩ := F.ex
  rcases hD with ⟨_, rfl⟩ | ⟨e, _⟩
  · have h := StX.fn_star (P := P) (w := w) (mg := mg) (base := base) (k := k) (CX := L2.CX P w) (ps := []) (pv := pv) (N := N) (sp := fun vs H Q E => ∃ (p : Addr) (rest : List V) (H0 : Hp) (mu xi : List Addr) (ds : List D) (st : Sto), vs = [.ref p] ∧ H0 p = none ∧ H = upd H0 p (.tup rest) ∧
        Rels K ⟨H0, mu, xi⟩ ds rest ∧ Corr K ⟨H0, mu, xi⟩ st ∧ ds.length ≤ sizeLine ∧ Post K (Rel K) ⟨H0, mu, xi⟩ [] (fun c d _ H' => E c d H') Q (fnEnd lv st (m (some (.tup ds) :: List.replicate (N.length - 1) none) st))) lk hcd S StX.cxUp (fun us rest hu => by
      cases us with
      | nil => exact hb kV doc pm an cdv ct rest
      | cons _ _ => cases hu) (fun A outer s H vs Q E hr h => by
      obtain ⟨p, rest, H0, mu, xi, ds, st, rfl, hp, rfl, r, c, hz, h⟩ := h
      have tk : Takes (cxOf (L2.CX P w) P w K mg base N qual scope f cdv A outer s (upd H0 p (.tup rest)) E) (WXe E) := takes_of (X := cxOf (L2.CX P w) P w K mg base N qual scope f cdv A outer s (upd H0 p (.tup rest)) E) rfl rfl rfl rfl
      have hp2 : PassesOwn (model P w) (A.deeper (envOfC qual scope s.heap.objs.size f cdv)) (envOfC qual scope s.heap.objs.size f cdv) (cxOf (L2.CX P w) P w K mg base N qual scope f cdv A outer s (upd H0 p (.tup rest)) E).xe := passes_of (X := cxOf (L2.CX P w) P w K mg base N qual scope f cdv A outer s (upd H0 p (.tup rest)) E) rfl
      obtain ⟨l, c2, e2⟩ := c.new (.tup rest) hp
      refine ⟨_, hbody cdv A outer s _ E hr tk hp2, mu, xi, _, st, ?_, c2, fnEnd_ok c2 (h.le l)⟩
      have rr : Rels K ⟨upd H0 p (.tup rest), mu, xi⟩ [.tup ds] [.ref p] := .cons (by unfold Rel; exact ⟨p, rest, rfl, e2, r.le l⟩) .nil
      exact REnv.start rr)
    intro A outer s H us vs Q E hr e0 rv hsp
    obtain ⟨mu, xi, ds, st, r, c, h2⟩ := hsp
    unfold fnStar at h2
    split at h2
    · rename_i hz
      refine h A outer s H us vs Q E hr e0 rv ⟨[], vs, rfl, rfl, by rw [← r.length]; exact hz, fun p hp => ⟨p, vs, H, mu, xi, ds, st, rfl, hp, rfl, r, c, hz, h2⟩⟩
    · exact h2.elim
  · exact absurd rfl e
end ND
end
namespace ND
open PySem L2 PyProof.Rows PySem.W
section
variable {prog : Program} {w : World} {M : Model} {A : Around} {E : Value → Shared → Prop} {s : Shared} {K : Frag} {x y C L f : Addr} {ox : Obj} {od : Option Obj} {nm T : String}
/-- a op b, both of one own class -/
theorem own_same {op : Operator} {oy : Obj} {od2 : Option Obj} {Q : Value → Shared → Prop} (X : K.In s.heap) (I : InstAt s.heap x ox C od) (I2 : InstAt s.heap y oy C od2) (hc : selfFirst K C = true)
    (hs : findIn K (.ref C) (PySem.dunder op.info.2) = some (some (.ref f))) (hf : isFn K (.ref f) = true)
    (h : wpAny (model prog w) A (call (.ref f) [.ref x, .ref y]) (PySem.W.CmpBack Q) E s) : wpAny (model prog w) A (binaryOp op (.ref x) (.ref y)) Q E s := by
  obtain ⟨cd, rest, hcd, hm⟩ := ksp_first hc
  rcases hi : op.info with ⟨sym, nm'⟩
  rw [hi] at hs
  dsimp only at hs
  have one := ksp_try X I hs hf h
  obtain ⟨hh, g, d, tt, os⟩ := s
  have L1 : Looks (model prog w) hh (typeOf (.ref x)) (.ref C) := I.type
  have L2 : Looks (model prog w) hh (typeOf (.ref y)) (.ref C) := I2.type
  have L3 : Looks (model prog w) hh (fillsNumberSlot (.ref C) nm') true := fills_K X hcd hm hs
  simp only [binaryOp, hi]
  refine wpAny_holding (wpAny_bind ?_)
  unfold binaryOp1
  refine wpAny_bind (L1.at (wpAny_bind (L2.at (wpAny_bind (L3.at ?_)))))
  simp only [beq_self_eq_true, if_true]
  ksp_lk
  refine wpAny_mono one (fun r s' hr' => ?_) fun _ _ e => e
  obtain ⟨v, rfl, hq⟩ := hr'
  ksp_lk
  exact hq
end
/-! ### by data -/
abbrev dnd (op : Operator) : Str := PySem.dunder op.info.2
structure BinD (P : Program) (w : World) (K : PySem.W.Frag) (mg : Str → Option Value) (base : Heap) (lv : Nat) (k : String) (op : Operator) (F : DF) : Prop where
  cl : Cls K (gaS K k)
  first : selfFirst K (gaS K k) = true
  ex : ∃ f, findIn K (.ref (gaS K k)) (dnd op) = some (some (.ref f)) ∧ isFn K (.ref f) = true ∧ FnD P w K mg base lv f F
/-- the operators of own classes, by the class -/
abbrev BT : Type := List (String × DF)
def bfind : BT → String → Option DF
  | [], _ => none
  | (k', F) :: r, k => if k' = k then some F else bfind r k
def BtOk (X : Cx) (op : Operator) (bt : BT) : Prop := ∀ k F, bfind bt k = some F → ∃ lv, Room lv X.A ∧ BinD X.prog X.w X.K X.mg X.base lv k op F
theorem BtOk.nil {X : Cx} {op : Operator} : BtOk X op [] := fun k F h => by cases h
theorem BtOk.cons {X : Cx} {op : Operator} {lv : Nat} {k : String} {F : DF} {bt : BT} (hr : Room lv X.A) (h : BinD X.prog X.w X.K X.mg X.base lv k op F) (t : BtOk X op bt) : BtOk X op ((k, F) :: bt) := fun k' F' h' => by
  unfold bfind at h'
  split at h'
  · rename_i e
    cases h'
    rw [← e]
    exact ⟨lv, hr, h⟩
  · exact t k' F' h'
/-- a def's values are never NotImplemented -/
theorem relV_back {v : V} {u : Value} (r : L2.RelV v u) {Q : Value → Shared → Prop} {s : Shared} (q : Q u s) : PySem.W.CmpBack Q u s := by
  cases v with
  | non => cases r; exact q
  | bl b => cases r; exact q
  | int i => obtain ⟨t, rfl⟩ := r; exact q
  | str i => obtain ⟨t, rfl⟩ := r; exact q
  | byt i => obtain ⟨t, rfl⟩ := r; exact q
  | flt i => obtain ⟨t, rfl⟩ := r; exact q
  | ref a => cases r; exact q
  | ty n => cases r; exact q
theorem ep_back {X : Cx} {pins : List (Addr × Obj)} {σ : L2.St} {Q : VK} {u : Value} {s : Shared} (h : EP X pins σ Q u s) : PySem.W.CmpBack (EP X pins σ Q) u s := by
  obtain ⟨v, H', I, r, q⟩ := h
  exact relV_back r ⟨v, H', I, r, q⟩
theorem inst_of {X : Cx} {pins : List (Addr × Obj)} {σ : L2.St} {H : Hp} {s : Shared} {a C dx : Addr} {fs : List (Str × V)} (I : Inv X pins σ H s) (h : H a = some (.ins C dx fs)) : ∃ od, InstAt s.heap a (instObj C dx) C (some od) := by
  obtain ⟨mA, O, _⟩ := ins_get I.hok h
  obtain ⟨od, J, _⟩ := O.look
  exact ⟨od, J⟩
section
variable {X : Cx} {Wx : WX}
/-- both of one own class -/
def bothD (bt : BT) : D2 := fun x y st => match insD st x, insD st y with
  | some (k, _, _), some (k', _, _) => if k = k' then (match bfind bt k with
    | some F => F [x, y] st
    | none => .bad) else .bad
  | _, _ => .bad
theorem o_both {op : Operator} {bt : BT} (hb : BtOk X op bt) (tk : Takes X Wx) : OpD X Wx (binaryOp op) (bothD bt) := by
  intro pins s σ w st x y vx vy v u Q I c rx ry rv ru h
  unfold bothD at h
  split at h
  · rename_i k f1 x1 k' f2 x2 e1 e2
    split at h
    · rename_i ek
      subst ek
      split at h
      · rename_i F eF
        obtain ⟨a1, dx1, gs1, ea1, q1, _, _⟩ := insD_ok c rx e1
        obtain ⟨a2, dx2, gs2, ea2, q2, _, _⟩ := insD_ok c ry e2
        subst ea1 ea2
        cases rv
        cases ru
        obtain ⟨lv, hr, B⟩ := hb k F eF
        obtain ⟨f, hs, hf, G⟩ := B.ex
        obtain ⟨od1, J1⟩ := inst_of I q1
        obtain ⟨od2, J2⟩ := inst_of I q2
        refine own_same I.kIn J1 J2 B.first hs hf ?_
        exact wpAny_mono (G.run (w := w) (ds := [x, y]) (vs := [.ref a1, .ref a2]) (us := [.ref a1, .ref a2]) hr tk I c (.cons rx (.cons ry .nil)) (.cons rfl (.cons rfl .nil)) h) (fun r s' q => ep_back q) fun _ _ e => e
      · exact h.elim
    · exact h.elim
  · exact h.elim
end
end ND
noncomputable section
namespace ND
open PySem L2 PyProof.Rows PySem.W
section
variable {X : Cx} {Wx : WX} {a b c e o : Expr} {es : List Expr} {ma mb mc me mo : M D} {ms : M (List D)} {pos : Pos}
/-! ### isinstance -/
/-- a type: (false, n) the built-in n, (true, k) the own class k -/
abbrev TK : Type := Bool × String
def tkV (K : Frag) : TK → Value
  | (false, n) => .type n
  | (true, k) => .ref (gaS K k)
def tyD (st : Sto) : D → Option TK
  | .non => some (false, "NoneType")
  | .bl _ => some (false, "bool")
  | .int _ => some (false, "int")
  | .str _ => some (false, "str")
  | .tup _ => some (false, "tuple")
  | .lst _ => some (false, "list")
  | .dK _ _ => some (false, "dict")
  | .dT _ _ => some (false, "dict")
  | .ins k _ _ => some (true, k)
  | .ref n => match st[n]? with
    | some (.lst _) => some (false, "list")
    | some (.dK _ _) => some (false, "dict")
    | some (.dT _ _) => some (false, "dict")
    | some (.ins k _ _) => some (true, k)
    | none => none
  | _ => none
/-- what isinstance asks of an own class -/
structure TyC (K : Frag) (k : String) : Prop where
  cl : Cls K (gaS K k)
  ha : findIn K (.ref (gaS K k)) "__class__" = some (some (.builtin "object.__class__"))
  hn : specialIn K (.builtin "object.__class__") "__get__" = some (some (.builtin "getset_descriptor.__get__"))
  ht : takesIn K (.builtin "object.__class__") = some true
  hm : mroIn K (gaS K k) (.type "object") = some true
theorem tyD_ok {w : Wd} {st : Sto} {d : D} {v : V} {t : TK} {cs : List String} (hcs : ∀ k ∈ cs, TyC X.K k) (c : Corr X.K w st) (r : Rel X.K w d v) (h : tyD st d = some t) (ht : t.1 = true → t.2 ∈ cs) : TyX X.K w.H v (tkV X.K t) := by
  have own : ∀ {a dx : Addr} {k : String} {gs : List (Str × V)}, k ∈ cs → w.H a = some (.ins (gaS X.K k) dx gs) → TyX X.K w.H (.ref a) (.ref (gaS X.K k)) := fun hk e =>
    .base (.ins e (hcs _ hk).cl (hcs _ hk).ha (hcs _ hk).hn (hcs _ hk).ht (hcs _ hk).hm)
  cases d with
  | non => cases h; unfold Rel at r; subst r; exact .base .non
  | bl b => cases h; unfold Rel at r; subst r; exact .base (.bl _)
  | int b => cases h; unfold Rel at r; subst r; exact .base (.int _)
  | str b => cases h; unfold Rel at r; subst r; exact .base (.str _)
  | tup xs =>
    cases h
    unfold Rel at r
    obtain ⟨a, vs, rfl, q, _⟩ := r
    exact .base (.tup (fr_here q))
  | lst xs =>
    cases h
    unfold Rel at r
    obtain ⟨a, vs, rfl, q, _⟩ := r
    exact .base (.lst (fr_here q))
  | dK ks xs =>
    cases h
    unfold Rel at r
    obtain ⟨a, vs, rfl, q, _⟩ := r
    exact .base (.dK (fr_here q))
  | dT ks xs =>
    cases h
    unfold Rel at r
    obtain ⟨a, vs, rfl, q, _⟩ := r
    exact .base (.dT (fr_here q))
  | ins k fs xs =>
    cases h
    unfold Rel at r
    obtain ⟨a, dx, gs, rfl, q, _⟩ := r
    exact own (ht rfl) (fr_here q)
  | ref n =>
    unfold Rel at r
    obtain ⟨a, rfl, q⟩ := r
    have h2 : (match st[n]? with
      | some (.lst _) => some (false, "list")
      | some (.dK _ _) => some (false, "dict")
      | some (.dT _ _) => some (false, "dict")
      | some (.ins k _ _) => some (true, k)
      | none => none) = some t := h
    split at h2
    · rename_i hx
      cases h2
      obtain ⟨u, hu, vs, rfl, _⟩ := c.obj n a _ q hx
      exact .base (.lst hu)
    · rename_i hx
      cases h2
      obtain ⟨u, hu, vs, rfl, _⟩ := c.obj n a _ q hx
      exact .base (.dK hu)
    · rename_i hx
      cases h2
      obtain ⟨u, hu, vs, rfl, _⟩ := c.obj n a _ q hx
      exact .base (.dT hu)
    · rename_i hx
      cases h2
      obtain ⟨u, hu, dx, gs, rfl, _⟩ := c.obj n a _ q hx
      exact own (ht rfl) hu
    · cases h2
  | _ => cases h
def clD : D → Option TK
  | .ty n => some (false, n)
  | .glo x => some (true, x)
  | _ => none
/-- the answers of isinstance that a law asks for -/
abbrev IT : Type := List (TK × TK × Bool)
def ifind : IT → TK → TK → Option Bool
  | [], _, _ => none
  | (t', u', b) :: r, t, u => if t' = t ∧ u' = u then some b else ifind r t u
def ItOk (K : Frag) (it : IT) : Prop := ∀ q ∈ it, kitOne K (tkV K q.1) (tkV K q.2.1) = some q.2.2
theorem ItOk.nil {K : Frag} : ItOk K [] := fun q h => by cases h
theorem ItOk.cons {K : Frag} {q : TK × TK × Bool} {it : IT} (h : kitOne K (tkV K q.1) (tkV K q.2.1) = some q.2.2) (t : ItOk K it) : ItOk K (q :: it) := fun p hp => by
  rcases List.mem_cons.mp hp with e | hp
  · rw [e]
    exact h
  · exact t p hp
theorem ifind_ok {K : Frag} : ∀ {it : IT} {t u : TK} {b : Bool}, ItOk K it → ifind it t u = some b → kitOne K (tkV K t) (tkV K u) = some b
  | [], _, _, _, _, h => by cases h
  | (t', u', b') :: r, t, u, b, ok, h => by
    unfold ifind at h
    split at h
    · rename_i e
      cases h
      rw [← e.1, ← e.2]
      exact ok _ List.mem_cons_self
    · exact ifind_ok (fun q hq => ok q (List.mem_cons_of_mem _ hq)) h
def isiD (cs : List String) (it : IT) : DF := fun ds st => match ds with
  | [x, c] => (match tyD st x, clD c with
    | some t, some u => if t.1 = true → t.2 ∈ cs then (match ifind it t u with
      | some b => .ok (.bl b) st
      | none => .bad) else .bad
    | _, _ => .bad)
  | _ => .bad
theorem c_isi {cs : List String} {it : IT} (hcs : ∀ k ∈ cs, TyC X.K k) (hit : ItOk X.K it) : CallD X Wx (.builtin "isinstance") (isiD cs it) := calld_of call_isi fun w σ st ds vs Q c r h => by
  unfold isiD at h
  split at h
  · rename_i x k
    split at h
    · rename_i t u e1 e2
      split at h
      · rename_i ht
        split at h
        · rename_i b e3
          obtain ⟨v, y, rfl, rx, rk⟩ := r.two
          refine ⟨v, y, tkV X.K t, tkV X.K u, b, rfl, ?_, tyD_ok hcs c rx e1 ht, ifind_ok hit e3, h w (.bl b) (.refl _) (rel_bl w b) c⟩
          cases k with
          | ty n =>
            cases e2
            unfold Rel at rk
            subst rk
            exact .ty n
          | glo n =>
            cases e2
            unfold Rel at rk
            subst rk
            exact .own _
          | _ => cases e2
        · exact h.elim
      · exact h.elim
    · exact h.elim
  · exact h.elim

/-! ### max, min of a list of ints -/
def maxL : List Int → Int
  | [] => 0
  | x :: xs => xs.foldl maxI x
def minL : List Int → Int
  | [] => 0
  | x :: xs => xs.foldl minI x
theorem foldl_max : ∀ (xs : List Int) (x : Int), (xs.foldl maxI x = x ∨ xs.foldl maxI x ∈ xs) ∧ x ≤ xs.foldl maxI x ∧ ∀ y ∈ xs, y ≤ xs.foldl maxI x
  | [], x => ⟨.inl rfl, Int.le_refl _, fun y h => by cases h⟩
  | z :: zs, x => by
    obtain ⟨h1, h2, h3⟩ := foldl_max zs (maxI x z)
    have h4 : x ≤ maxI x z ∧ z ≤ maxI x z ∧ (maxI x z = x ∨ maxI x z = z) := by unfold maxI; split <;> omega
    show (zs.foldl maxI (maxI x z) = x ∨ zs.foldl maxI (maxI x z) ∈ z :: zs) ∧ x ≤ zs.foldl maxI (maxI x z) ∧ ∀ y ∈ z :: zs, y ≤ zs.foldl maxI (maxI x z)
    refine ⟨?_, by omega, fun y hy => ?_⟩
    · rcases h1 with h1 | h1
      · rcases h4.2.2 with e | e
        · exact .inl (h1.trans e)
        · exact .inr (by rw [h1, e]; exact List.mem_cons_self)
      · exact .inr (List.mem_cons_of_mem _ h1)
    · rcases List.mem_cons.mp hy with e | hy
      · rw [e]; omega
      · exact h3 y hy
theorem foldl_min : ∀ (xs : List Int) (x : Int), (xs.foldl minI x = x ∨ xs.foldl minI x ∈ xs) ∧ xs.foldl minI x ≤ x ∧ ∀ y ∈ xs, xs.foldl minI x ≤ y
  | [], x => ⟨.inl rfl, Int.le_refl _, fun y h => by cases h⟩
  | z :: zs, x => by
    obtain ⟨h1, h2, h3⟩ := foldl_min zs (minI x z)
    have h4 : minI x z ≤ x ∧ minI x z ≤ z ∧ (minI x z = x ∨ minI x z = z) := by unfold minI; split <;> omega
    show (zs.foldl minI (minI x z) = x ∨ zs.foldl minI (minI x z) ∈ z :: zs) ∧ zs.foldl minI (minI x z) ≤ x ∧ ∀ y ∈ z :: zs, zs.foldl minI (minI x z) ≤ y
    refine ⟨?_, by omega, fun y hy => ?_⟩
    · rcases h1 with h1 | h1
      · rcases h4.2.2 with e | e
        · exact .inl (h1.trans e)
        · exact .inr (by rw [h1, e]; exact List.mem_cons_self)
      · exact .inr (List.mem_cons_of_mem _ h1)
    · rcases List.mem_cons.mp hy with e | hy
      · rw [e]; omega
      · exact h3 y hy
theorem maxL_is {ns : List Int} {m : Int} (h : m ∈ ns) (hm : ∀ y ∈ ns, y ≤ m) : m = maxL ns := by
  cases ns with
  | nil => cases h
  | cons x xs =>
    obtain ⟨h1, h2, h3⟩ := foldl_max xs x
    show m = xs.foldl maxI x
    have a1 : m ≤ xs.foldl maxI x := by
      rcases List.mem_cons.mp h with e | h
      · rw [e]; exact h2
      · exact h3 m h
    have a2 : xs.foldl maxI x ≤ m := by
      rcases h1 with e | e
      · rw [e]; exact hm x List.mem_cons_self
      · exact hm _ (List.mem_cons_of_mem _ e)
    omega
theorem minL_is {ns : List Int} {m : Int} (h : m ∈ ns) (hm : ∀ y ∈ ns, m ≤ y) : m = minL ns := by
  cases ns with
  | nil => cases h
  | cons x xs =>
    obtain ⟨h1, h2, h3⟩ := foldl_min xs x
    show m = xs.foldl minI x
    have a1 : xs.foldl minI x ≤ m := by
      rcases List.mem_cons.mp h with e | h
      · rw [e]; exact h2
      · exact h3 m h
    have a2 : m ≤ xs.foldl minI x := by
      rcases h1 with e | e
      · rw [e]; exact hm x List.mem_cons_self
      · exact hm _ (List.mem_cons_of_mem _ e)
    omega
def intsD (g : List Int → Int) : DF := fun ds st => match ds with
  | [x] => (match seqL st x with
    | some xs => (match allInts xs with
      | some (n :: ns) => .ok (.int (g (n :: ns))) st
      | _ => .bad)
    | none => .bad)
  | _ => .bad
theorem intsD_ok {g : List Int → Int} {w : Wd} {σ : L2.St} {st : Sto} {ds : List D} {vs : List V} {Q : VK} (c : Corr X.K w st) (r : Rels X.K w ds vs) (h : Post X.K (Rel X.K) w σ Wx Q (intsD g ds st)) : ∃ a ns, vs = [V.ref a] ∧ SqL X.K w.H a (ns.map V.int) ∧ 0 < ns.length ∧ Q (.int (g ns)) w.H := by
  unfold intsD at h
  split at h
  · rename_i x
    split at h
    · rename_i xs e1
      split at h
      · rename_i n ns e2
        obtain ⟨v, rfl, rx⟩ := r.one
        obtain ⟨a, us, rfl, q, s⟩ := seqL_ok c rx e1
        rw [allInts_ok e2] at s
        rw [s.ints] at q
        exact ⟨a, n :: ns, rfl, q, Nat.zero_lt_succ _, h w _ (.refl _) (rel_int w _) c⟩
      · exact h.elim
    · exact h.elim
  · exact h.elim
theorem c_maxL (hc : X.calm = true) : CallD X Wx (.builtin "max") (intsD maxL) := calld_of (cr_max hc) fun w σ st ds vs Q c r h => by
  obtain ⟨a, ns, e, q, hl, z⟩ := intsD_ok c r h
  exact ⟨a, ns, e, q, hl, fun m h1 h2 => by rw [maxL_is h1 h2]; exact z⟩
theorem c_minL (hc : X.calm = true) : CallD X Wx (.builtin "min") (intsD minL) := calld_of (cr_min hc) fun w σ st ds vs Q c r h => by
  obtain ⟨a, ns, e, q, hl, z⟩ := intsD_ok c r h
  exact ⟨a, ns, e, q, hl, fun m h1 h2 => by rw [minL_is h1 h2]; exact z⟩

/-! ### a list times an int -/
theorem Rels.flat {K : Frag} {w : Wd} {xs : List D} {vs : List V} (r : Rels K w xs vs) : ∀ n : Nat, Rels K w (List.replicate n xs).flatten (List.replicate n vs).flatten
  | 0 => .nil
  | n + 1 => by
    rw [List.replicate_succ, List.replicate_succ, List.flatten_cons, List.flatten_cons]
    exact r.append (Rels.flat r n)
def mulL (lv : Bool) : D2 := fun x y st => match x, y with
  | .ext _, _ => .bad
  | x, .int k => (match seqL st x with
    | some xs => if Ok (k < 2 ^ 63 ∧ -(2 ^ 63) ≤ k ∧ xs.length * k.toNat ≤ sizeLine) then mkL lv (List.replicate k.toNat xs).flatten st else .bad
    | none => .bad)
  | _, _ => .bad
theorem o_mulL {lv : Bool} : OpD X Wx (binaryOp .Mult) (mulL lv) := opd_of op_rep fun w σ st x y vx vy Q c rx ry h => by
  unfold mulL at h
  split at h
  · exact h.elim
  · rename_i x' k hne
    split at h
    · rename_i xs e1
      split at h
      · rename_i hk
        unfold Rel at ry
        subst ry
        obtain ⟨a, vs, rfl, q, s⟩ := seqL_trk c rx e1 (fun ns e => hne ns (by rw [e]))
        refine ⟨a, k, vs, rfl, rfl, q, hk.2.1, hk.1, by rw [← s.length]; exact hk.2.2, fun p hp => ?_⟩
        exact post_newL c (s.flat _) h p hp
      · exact h.elim
    · exact h.elim
  · exact h.elim

/-! ### x is True -/
def isB (neg : Bool) : D2
  | .bl x, .bl y, st => .ok (.bl (if neg then !decide (x = y) else decide (x = y))) st
  | _, _, _ => .bad
theorem o_isB : OpD X Wx (compareOp .Is) (isB false) := opd_of op_is_bl fun w σ st x y vx vy Q c rx ry h => by
  unfold isB at h
  split at h
  · unfold Rel at rx ry
    exact ⟨_, _, rx, ry, h w _ (.refl _) (rel_bl w _) c⟩
  · exact h.elim
theorem o_isnotB : OpD X Wx (compareOp .IsNot) (isB true) := opd_of op_isnot_bl fun w σ st x y vx vy Q c rx ry h => by
  unfold isB at h
  split at h
  · unfold Rel at rx ry
    exact ⟨_, _, rx, ry, h w _ (.refl _) (rel_bl w _) c⟩
  · exact h.elim
end
end ND
end
noncomputable section
namespace ND
open PySem L2 PyProof.Rows PySem.W
section
variable {X : Cx} {Wx : WX} {a b c e o : Expr} {es rs : List Expr} {ma mb mc me mo : M D} {ms : M (List D)} {pos : Pos} {op op' : CmpOp} {ops : List CmpOp}
/-! ### chains -/
/-- what follows the left value of a chain -/
abbrev MC : Type := D → M D
structure CCh (X : Cx) (Wx : WX) (ops : List CmpOp) (rs : List Expr) (m : MC) : Prop where
  val : ∀ (pos : Pos) (pins : List (Addr × Obj)) (s : Shared) (σ : L2.St) (w : Wd) (st : Sto) (env : ND.Env) (d : D) (v : V) (u : Value) (Q : VK), Inv X pins σ w.H s → REnv X.K w env σ → Corr X.K w st → Rel X.K w d v → RelV v u →
    Post X.K (Rel X.K) w σ Wx Q (m d env st) → wpAny (model X.prog X.w) X.A (compareChain pos u ops (evalEach rs X.env)) (EP X pins σ Q) X.xe s
  tst : ∀ (pos : Pos) (pins : List (Addr × Obj)) (s : Shared) (σ : L2.St) (w : Wd) (st : Sto) (env : ND.Env) (d : D) (v : V) (u : Value) (Q : Bool → Hp → Prop), Inv X pins σ w.H s → REnv X.K w env σ → Corr X.K w st → Rel X.K w d v → RelV v u →
    Post X.K RB w σ Wx Q (toB (m d) env st) → wpAny (model X.prog X.w) X.A (testChain pos u ops (evalEach rs X.env)) (fun k s' => ∃ H', Inv X pins σ H' s' ∧ Q k H') X.xe s
/-- a result that is a bool -/
theorem toB_post {w : Wd} {σ : L2.St} {Q : Bool → Hp → Prop} {r : Res D} (h : Post X.K RB w σ Wx Q (r.bind fun d s1 => match d with
    | .bl b => .ok b s1
    | _ => .bad)) : Post X.K (Rel X.K) w σ Wx (fun z H => ∃ k, z = .bl k ∧ Q k H) r := by
  cases r with
  | ok d st =>
    cases d with
    | bl b =>
      intro w' v l r c
      unfold Rel at r
      exact ⟨b, r, h w' b l rfl c⟩
    | _ => exact h.elim
  | exc k fs xs st => exact h
  | bad => exact h
theorem cch_last {g : D2} (ho : OpD X Wx (compareOp op) g) (hb : CE X Wx b mb) : CCh X Wx [op] [b] (fun d env st => (mb env st).bind fun y s1 => g d y s1) := by
  have V : ∀ (pins : List (Addr × Obj)) (s : Shared) (σ : L2.St) (w : Wd) (st : Sto) (env : ND.Env) (d : D) (v : V) (u : Value) (Q : VK), Inv X pins σ w.H s → REnv X.K w env σ → Corr X.K w st → Rel X.K w d v → RelV v u →
      Post X.K (Rel X.K) w σ Wx Q ((mb env st).bind fun y s1 => g d y s1) → wpAny (model X.prog X.w) X.A (eval b X.env) (fun z s₁ => wpAny (model X.prog X.w) X.A (compareOp op u z) (EP X pins σ Q) X.xe s₁) X.xe s := by
    intro pins s σ w st env d v u Q I re c rd rv h
    refine thn (hb.run pins s σ w.H _ I (tG_bind (R := Rel X.K) re c h)) fun z s1 ⟨y, H1, I1, ry, mu1, xi1, d1, st1, l1, r1, c1, re1, p1⟩ => ?_
    exact ho pins s1 σ ⟨H1, mu1, xi1⟩ st1 d d1 v y u z Q I1 c1 (rd.le l1) r1 rv ry p1
  refine ⟨fun pos pins s σ w st env d v u Q I re c rd rv h => chain_last (V pins s σ w st env d v u Q I re c rd rv h), fun pos pins s σ w st env d v u Q I re c rd rv h => test_last ?_⟩
  refine thn (V pins s σ w st env d v u (fun z H => ∃ k, z = .bl k ∧ Q k H) I re c rd rv (toB_post h)) fun z s1 q1 => thn q1 fun cc s2 ⟨y, H2, I2, r2, k, e, q2⟩ => ?_
  subst e
  cases r2
  exact wpAny_truthy_bool ⟨H2, I2, q2⟩
/-- a op b, then on with b -/
def chL (g : D2) (mb : M D) (m : MC) : MC := fun d env st => (mb env st).bind fun y s1 => (g d y s1).bind fun r s2 => match r with
  | .bl true => m y env s2
  | .bl false => .ok (.bl false) s2
  | _ => .bad
theorem cch_link {g : D2} {m : MC} (ho : OpD X Wx (compareOp op) g) (hb : CE X Wx b mb) (hr : CCh X Wx (op' :: ops) (c :: rs) m) : CCh X Wx (op :: op' :: ops) (b :: c :: rs) (chL g mb m) := by
  constructor
  · intro pos pins s σ w st env d v u Q I re c0 rd rv h
    refine chain_link (thn (hb.run pins s σ w.H _ I (tG_bind (R := Rel X.K) re c0 h)) fun z s1 ⟨y, H1, I1, ry, mu1, xi1, d1, st1, l1, r1, c1, re1, p1⟩ => ?_)
    have p2 : Post X.K (Rel X.K) ⟨H1, mu1, xi1⟩ σ Wx (fun t H2 => ∃ mu2 xi2 k st2, (⟨H1, mu1, xi1⟩ : Wd).Le ⟨H2, mu2, xi2⟩ ∧ t = .bl k ∧ Corr X.K ⟨H2, mu2, xi2⟩ st2 ∧ Post X.K (Rel X.K) ⟨H2, mu2, xi2⟩ σ Wx Q (if k = true then m d1 env st2 else .ok (.bl false) st2)) (g d d1 st1) := by
      cases eg : g d d1 st1 with
      | ok t st2 =>
        rw [eg] at p1
        cases t with
        | bl k =>
          intro w' v' l r c2
          unfold Rel at r
          refine ⟨w'.mu, w'.xi, k, st2, l, r, c2, ?_⟩
          cases k with
          | true => exact Post.le p1 l
          | false => exact Post.le p1 l
        | _ => exact p1.elim
      | exc k fs xs st2 =>
        rw [eg] at p1
        exact p1
      | bad =>
        rw [eg] at p1
        exact p1
    refine thn (ho pins s1 σ ⟨H1, mu1, xi1⟩ st1 d d1 v y u z _ I1 c1 (rd.le l1) r1 rv ry p2) fun t s2 ⟨t', H2, I2, rt, mu2, xi2, k, st2, l2, et, c2, q2⟩ => ?_
    subst et
    cases rt
    refine wpAny_truthy_bool ?_
    cases k with
    | true => exact ite_tt (hr.val pos pins s2 σ ⟨H2, mu2, xi2⟩ st2 env d1 y z Q I2 (re1.le l2) c2 (r1.le l2) ry q2)
    | false => exact ite_ff ⟨.bl false, H2, I2, rfl, q2 ⟨H2, mu2, xi2⟩ (.bl false) (.refl _) (rel_bl _ _) c2⟩
  · intro pos pins s σ w st env d v u Q I re c0 rd rv h
    have h' : Post X.K RB w σ Wx Q ((mb env st).bind fun y s1 => toB (fun env st => (g d y st).bind fun r s2 => match r with
        | .bl true => m y env s2
        | .bl false => .ok (.bl false) s2
        | _ => .bad) env s1) := by
      have e : toB (chL g mb m d) env st = (mb env st).bind fun y s1 => toB (fun env st => (g d y st).bind fun r s2 => match r with
        | .bl true => m y env s2
        | .bl false => .ok (.bl false) s2
        | _ => .bad) env s1 := Res.bind_assoc _ _ _
      rw [← e]
      exact h
    refine test_link (thn (hb.run pins s σ w.H _ I (tG_bind (R := Rel X.K) re c0 h')) fun z s1 ⟨y, H1, I1, ry, mu1, xi1, d1, st1, l1, r1, c1, re1, p1⟩ => ?_)
    have p2 : Post X.K (Rel X.K) ⟨H1, mu1, xi1⟩ σ Wx (fun t H2 => ∃ mu2 xi2 k st2, (⟨H1, mu1, xi1⟩ : Wd).Le ⟨H2, mu2, xi2⟩ ∧ t = .bl k ∧ Corr X.K ⟨H2, mu2, xi2⟩ st2 ∧ Post X.K RB ⟨H2, mu2, xi2⟩ σ Wx Q (if k = true then toB (m d1) env st2 else .ok false st2)) (g d d1 st1) := by
      have p1' : Post X.K RB ⟨H1, mu1, xi1⟩ σ Wx Q (((g d d1 st1).bind fun r s2 => match r with
        | .bl true => m d1 env s2
        | .bl false => .ok (.bl false) s2
        | _ => .bad).bind fun d s1 => match d with
        | .bl b => .ok b s1
        | _ => .bad) := p1
      replace p1 := p1'
      cases eg : g d d1 st1 with
      | ok t st2 =>
        rw [eg] at p1
        cases t with
        | bl k =>
          intro w' v' l r c2
          unfold Rel at r
          refine ⟨w'.mu, w'.xi, k, st2, l, r, c2, ?_⟩
          cases k with
          | true => exact Post.le p1 l
          | false => exact Post.le p1 l
        | _ => exact p1.elim
      | exc k fs xs st2 =>
        rw [eg] at p1
        exact p1
      | bad =>
        rw [eg] at p1
        exact p1
    refine thn (ho pins s1 σ ⟨H1, mu1, xi1⟩ st1 d d1 v y u z _ I1 c1 (rd.le l1) r1 rv ry p2) fun t s2 ⟨t', H2, I2, rt, mu2, xi2, k, st2, l2, et, c2, q2⟩ => ?_
    subst et
    cases rt
    refine wpAny_truthy_bool ?_
    cases k with
    | true => exact ite_tt (hr.tst pos pins s2 σ ⟨H2, mu2, xi2⟩ st2 env d1 y z Q I2 (re1.le l2) c2 (r1.le l2) ry q2)
    | false => exact ite_ff ⟨H2, I2, q2 ⟨H2, mu2, xi2⟩ false (.refl _) rfl c2⟩
def eCh (ma : M D) (m : MC) : M D := fun env st => (ma env st).bind fun x s1 => m x env s1
theorem ce_chain {m : MC} (ha : CE X Wx a ma) (hr : CCh X Wx (op :: op' :: ops) (b :: c :: rs) m) (hm : lastMarks (op :: op' :: ops) (b :: c :: rs) = false := by with_unfolding_all rfl) : CE X Wx (.Compare a (op :: op' :: ops) (b :: c :: rs) pos) (eCh ma m) := by
  refine ⟨fun pins s σ H Q I h => ?_⟩
  obtain ⟨mu, xi, env, st, re, c0, h⟩ := h
  exact Compare_chain (thn (ha.run pins s σ H _ I (tG_bind (R := Rel X.K) re c0 h)) fun u s1 ⟨v, H1, I1, rv, mu1, xi1, d1, st1, l1, r1, c1, re1, p1⟩ => hr.val pos pins s1 σ ⟨H1, mu1, xi1⟩ st1 env d1 v u Q I1 re1 c1 r1 rv p1) hm
theorem ct_chain {m : MC} (ha : CE X Wx a ma) (hr : CCh X Wx (op :: op' :: ops) (b :: c :: rs) m) (hm : lastMarks (op :: op' :: ops) (b :: c :: rs) = false := by with_unfolding_all rfl) : CT X Wx (.Compare a (op :: op' :: ops) (b :: c :: rs) pos) (toB (eCh ma m)) := by
  refine ⟨fun pins s σ H Q I h => ?_⟩
  obtain ⟨mu, xi, env, st, re, c0, h⟩ := h
  have h' : Post X.K RB ⟨H, mu, xi⟩ σ Wx Q ((ma env st).bind fun x s1 => toB (m x) env s1) := by
    have e : toB (eCh ma m) env st = (ma env st).bind fun x s1 => toB (m x) env s1 := Res.bind_assoc _ _ _
    rw [← e]
    exact h
  exact isTrue_chain (thn (ha.run pins s σ H _ I (tG_bind (R := Rel X.K) re c0 h')) fun u s1 ⟨v, H1, I1, rv, mu1, xi1, d1, st1, l1, r1, c1, re1, p1⟩ => hr.tst pos pins s1 σ ⟨H1, mu1, xi1⟩ st1 env d1 v u Q I1 re1 c1 r1 rv p1) hm

/-! ### own special methods -/
structure SpcD (P : Program) (w : World) (K : Frag) (mg : Str → Option Value) (base : Heap) (lv : Nat) (k m : String) (F : DF) : Prop where
  cl : Cls K (gaS K k)
  ex : ∃ f, findIn K (.ref (gaS K k)) (Str.ofString m) = some (some (.ref f)) ∧ isFn K (.ref f) = true ∧ FnD P w K mg base lv f F
def StOk (X : Cx) (m : String) (bt : BT) : Prop := ∀ k F, bfind bt k = some F → ∃ lv, Room lv X.A ∧ SpcD X.prog X.w X.K X.mg X.base lv k m F
theorem StOk.nil {X : Cx} {m : String} : StOk X m [] := fun k F h => by cases h
theorem StOk.cons {X : Cx} {m : String} {lv : Nat} {k : String} {F : DF} {bt : BT} (hr : Room lv X.A) (h : SpcD X.prog X.w X.K X.mg X.base lv k m F) (t : StOk X m bt) : StOk X m ((k, F) :: bt) := fun k' F' h' => by
  unfold bfind at h'
  split at h'
  · rename_i e
    cases h'
    rw [← e]
    exact ⟨lv, hr, h⟩
  · exact t k' F' h'
/-- x in y, y an instance -/
def inD (neg : Bool) (bt : BT) : D2 := fun x y st => match insD st y with
  | some (k, _, _) => (match bfind bt k with
    | some F => (F [y, x] st).bind fun r s1 => match truD s1 r with
      | some b => .ok (.bl (if neg then !b else b)) s1
      | none => .bad
    | none => .bad)
  | none => .bad
theorem in_own {M : Model} {A : Around} {E : Value → Shared → Prop} {s : Shared} {K : Frag} {x C f : Addr} {ox : Obj} {od : Option Obj} {v : Value} {Q : Bool → Shared → Prop} (Y : K.In s.heap) (I : InstAt s.heap x ox C od)
    (hs : findIn K (.ref C) "__contains__" = some (some (.ref f))) (hf : isFn K (.ref f) = true) (h : wpAny M A (call (.ref f) [.ref x, v]) (fun r s' => wpAny M A (truthy r) Q E s') E s) : wpAny M A (contains (.ref x) v) Q E s := by
  unfold contains
  refine wpAny_holding (wpAny_bind (wpAny_bind (I.type.here ((looks_findIn Y hs).here ?_))))
  rw [if_neg (by simp)]
  exact wpAny_bind (unlessNone_K Y I hs hf h)
theorem o_inG {neg : Bool} {bt : BT} (hb : StOk X "__contains__" bt) (tk : Takes X Wx) {pins : List (Addr × Obj)} {s : Shared} {σ : L2.St} {w : Wd} {st : Sto} {x y : D} {vx vy : V} {v u : Value} {Q : VK} (I : Inv X pins σ w.H s) (c : Corr X.K w st) (rx : Rel X.K w x vx) (ry : Rel X.K w y vy) (rv : RelV vx v) (ru : RelV vy u)
    (h : Post X.K (Rel X.K) w σ Wx Q (inD neg bt x y st)) : wpAny (model X.prog X.w) X.A (contains u v) (fun b s' => EP X pins σ Q (.bool (if neg then !b else b)) s') X.xe s := by
  unfold inD at h
  split at h
  · rename_i k f1 x1 e1
    split at h
    · rename_i F eF
      obtain ⟨a1, dx1, gs1, ea1, q1, _, _⟩ := insD_ok c ry e1
      subst ea1
      cases ru
      obtain ⟨lv, hr, B⟩ := hb k F eF
      obtain ⟨f, hs, hf, G⟩ := B.ex
      obtain ⟨od1, J1⟩ := inst_of I q1
      refine in_own I.kIn J1 hs hf ?_
      have p : Post X.K (Rel X.K) w σ Wx (fun r H2 => ∃ b, TruV X.K r H2 b ∧ Q (.bl (if neg then !b else b)) H2) (F [y, x] st) := by
        cases eF2 : F [y, x] st with
        | ok d st' =>
          rw [eF2] at h
          intro w' v' l r c'
          have h2 : Post X.K (Rel X.K) w σ Wx Q (match truD st' d with
            | some b => .ok (.bl (if neg then !b else b)) st'
            | none => .bad) := h
          split at h2
          · rename_i b eb
            exact ⟨b, truD_ok c' r eb, h2 w' _ l (rel_bl _ _) c'⟩
          · exact h2.elim
        | exc k fs xs st' =>
          rw [eF2] at h
          exact h
        | bad =>
          rw [eF2] at h
          exact h
      refine wpAny_mono (G.run (w := w) (ds := [y, x]) (vs := [.ref a1, vx]) (us := [.ref a1, v]) hr tk I c (.cons ry (.cons rx .nil)) (.cons rfl (.cons rv .nil)) p) (fun r s' q => ?_) fun _ _ e => e
      obtain ⟨r', H2, I2, rr, b, tb, q2⟩ := q
      refine wpAny_mono (tru_ok pins s' σ H2 r' r (fun k H3 => Q (.bl (if neg then !k else k)) H3) I2 rr ⟨b, tb, q2⟩) (fun k s3 ⟨H3, I3, q3⟩ => ?_) fun _ _ e => e
      exact ⟨.bl (if neg then !k else k), H3, I3, rfl, q3⟩
    · exact h.elim
  · exact h.elim
theorem o_in {bt : BT} (hb : StOk X "__contains__" bt) (tk : Takes X Wx) : OpD X Wx (compareOp .In) (inD false bt) := by
  intro pins s σ w st x y vx vy v u Q I c rx ry rv ru h
  exact wpAny_bind (wpAny_mono (o_inG hb tk I c rx ry rv ru h) (fun b s' q => wpAny_pure q) fun _ _ e => e)
theorem o_notin {bt : BT} (hb : StOk X "__contains__" bt) (tk : Takes X Wx) : OpD X Wx (compareOp .NotIn) (inD true bt) := by
  intro pins s σ w st x y vx vy v u Q I c rx ry rv ru h
  exact wpAny_bind (wpAny_mono (o_inG hb tk I c rx ry rv ru h) (fun b s' q => wpAny_pure q) fun _ _ e => e)
end
end ND
end
noncomputable section
namespace ND
open PySem L2 PyProof.Rows PySem.W
/-! ### dicts -/
section
variable {κ : Type} [DecidableEq κ]
def dval : List κ → List D → κ → Option D
  | k :: ks, x :: xs, j => if k = j then some x else dval ks xs j
  | _, _, _ => none
def dputs : List κ → List D → κ → D → List D
  | k :: ks, x :: xs, j, y => if k = j then y :: xs else x :: dputs ks xs j y
  | _, _, _, y => [y]
def dkeys : List κ → κ → List κ
  | k :: ks, j => if k = j then k :: ks else k :: dkeys ks j
  | [], j => [j]
theorem dval_ok {K : Frag} {w : Wd} : ∀ {ks : List κ} {xs : List D} {kvs : List (κ × V)} {j : κ}, kvs.map (·.1) = ks → Rels K w xs (kvs.map (·.2)) →
    match dval ks xs j with
    | some d => ∃ v, valV kvs j = some v ∧ Rel K w d v
    | none => valV kvs j = none
  | _, _, [], j, e, r => by
    subst e
    have : dval (List.map (fun x : κ × V => x.1) []) ‹List D› j = none := by unfold dval; rfl
    rw [this]
    rfl
  | _, [], p :: kvs, j, e, r => by
    have := r.length
    simp at this
  | _, x :: xs, p :: kvs, j, e, r => by
    subst e
    rw [List.map_cons] at r
    obtain ⟨v, rr, e3, q, s⟩ := r.inv
    injection e3 with e3 e4
    subst e3 e4
    show match dval (p.1 :: kvs.map (·.1)) (x :: xs) j with | some d => _ | none => _
    unfold dval
    by_cases hk : p.1 = j
    · rw [if_pos hk]
      exact ⟨p.2, valV_pos hk, q⟩
    · rw [if_neg hk, valV_neg hk]
      exact dval_ok rfl s
theorem putK_map {kvs : List (κ × V)} (nd : (kvs.map (·.1)).Nodup) (j : κ) (v : V) : (putK kvs j v).map (·.1) = dkeys (kvs.map (·.1)) j ∧ ∀ {K : Frag} {w : Wd} {xs : List D} {d : D}, Rels K w xs (kvs.map (·.2)) → Rel K w d v → Rels K w (dputs (kvs.map (·.1)) xs j d) ((putK kvs j v).map (·.2)) := by
  induction kvs with
  | nil =>
    refine ⟨rfl, fun {K w xs d} r rd => ?_⟩
    cases xs with
    | nil => exact .cons rd .nil
    | cons x xs =>
      have := r.length
      simp at this
  | cons p kvs ih =>
    rw [List.map_cons, List.nodup_cons] at nd
    obtain ⟨ih1, ih2⟩ := ih nd.2
    by_cases hk : p.1 = j
    · have e1 : putK (p :: kvs) j v = (p.1, v) :: kvs := by
        unfold putK
        rw [List.any_cons, decide_eq_true hk, Bool.true_or, if_pos rfl, List.map_cons, if_pos hk]
        congr 1
        have : kvs.map (fun kv => if kv.1 = j then (kv.1, v) else kv) = kvs.map id := List.map_congr_left fun kv hkv => by
          have : kv.1 ≠ j := fun e => nd.1 (by rw [hk, ← e]; exact List.mem_map.mpr ⟨kv, hkv, rfl⟩)
          rw [if_neg this]
          rfl
        rw [this, List.map_id]
      rw [e1]
      refine ⟨?_, fun {K w xs d} r rd => ?_⟩
      · show p.1 :: kvs.map (·.1) = dkeys (p.1 :: kvs.map (·.1)) j
        unfold dkeys
        rw [if_pos hk]
      · cases xs with
        | nil =>
          have := r.length
          simp at this
        | cons x xs =>
          rw [List.map_cons] at r
          obtain ⟨v', rr, e3, q, s⟩ := r.inv
          injection e3 with e3 e4
          subst e3 e4
          show Rels K w (dputs (p.1 :: kvs.map (·.1)) (x :: xs) j d) (v :: kvs.map (·.2))
          unfold dputs
          rw [if_pos hk]
          exact .cons rd s
    · have e1 : putK (p :: kvs) j v = p :: putK kvs j v := by
        unfold putK
        rw [List.any_cons, decide_eq_false hk, Bool.false_or, List.map_cons, if_neg hk]
        split <;> rfl
      rw [e1]
      refine ⟨?_, fun {K w xs d} r rd => ?_⟩
      · show p.1 :: (putK kvs j v).map (·.1) = dkeys (p.1 :: kvs.map (·.1)) j
        unfold dkeys
        rw [if_neg hk, ih1]
      · cases xs with
        | nil =>
          have := r.length
          simp at this
        | cons x xs =>
          rw [List.map_cons] at r
          obtain ⟨v', rr, e3, q, s⟩ := r.inv
          injection e3 with e3 e4
          subst e3 e4
          show Rels K w (dputs (p.1 :: kvs.map (·.1)) (x :: xs) j d) (p.2 :: (putK kvs j v).map (·.2))
          unfold dputs
          rw [if_neg hk]
          exact .cons q (ih2 s rd)
end
def keyD : D → Option Key
  | .int i => some (.inl i)
  | .str s => some (.inr s)
  | _ => none
def keysOf : List D → Option (List Key)
  | [] => some []
  | d :: ds => match keyD d, keysOf ds with
    | some k, some ks => some (k :: ks)
    | _, _ => none
theorem keyD_ok {K : Frag} {w : Wd} {d : D} {v : V} {k : Key} (r : Rel K w d v) (h : keyD d = some k) : v = kV k := by
  cases d with
  | int i => cases h; unfold Rel at r; exact r
  | str i => cases h; unfold Rel at r; exact r
  | _ => cases h
theorem keysOf_ok {K : Frag} {w : Wd} : ∀ {ds : List D} {vs : List V} {ks : List Key}, Rels K w ds vs → keysOf ds = some ks → vs = ks.map kV
  | [], vs, ks, r, h => by
    cases h
    unfold Rels at r
    exact r
  | d :: ds, vs, ks, r, h => by
    obtain ⟨v, rr, rfl, q, s⟩ := r.inv
    unfold keysOf at h
    split at h
    · rename_i k ks' e1 e2
      cases h
      rw [keyD_ok q e1, keysOf_ok s e2]
      rfl
    · cases h
def keyT : D → Option (List Key)
  | .tup xs => keysOf xs
  | _ => none
theorem keyT_ok {K : Frag} {w : Wd} {d : D} {v : V} {ks : List Key} (r : Rel K w d v) (h : keyT d = some ks) : ∃ b, v = .ref b ∧ w.H b = some (.tup (ks.map kV)) := by
  cases d with
  | tup xs =>
    unfold Rel at r
    obtain ⟨a, vs, e, q, s⟩ := r
    refine ⟨a, e, ?_⟩
    rw [← keysOf_ok s h]
    exact fr_here q
  | _ => cases h
/-- a dict with ints and texts as keys, one with tuples of them -/
def asdK (st : Sto) : D → Option (List Key × List D)
  | .dK ks xs => some (ks, xs)
  | .ref n => match st[n]? with
    | some (.dK ks xs) => some (ks, xs)
    | _ => none
  | _ => none
def asdT (st : Sto) : D → Option (List (List Key) × List D)
  | .dT ks xs => some (ks, xs)
  | .ref n => match st[n]? with
    | some (.dT ks xs) => some (ks, xs)
    | _ => none
  | _ => none
theorem asdK_ok {K : Frag} {w : Wd} {st : Sto} {d : D} {v : V} {ks : List Key} {xs : List D} (c : Corr K w st) (r : Rel K w d v) (h : asdK st d = some (ks, xs)) : ∃ a kvs, v = .ref a ∧ w.H a = some (.dK kvs) ∧ kvs.map (·.1) = ks ∧ Rels K w xs (kvs.map (·.2)) := by
  cases d with
  | dK k' x' =>
    cases h
    unfold Rel at r
    obtain ⟨a, kvs, e, q, s, t⟩ := r
    exact ⟨a, kvs, e, fr_here q, s, t⟩
  | ref n =>
    unfold Rel at r
    obtain ⟨a, e, q⟩ := r
    have h2 : (match st[n]? with
      | some (.dK ks xs) => some (ks, xs)
      | _ => none) = some (ks, xs) := h
    split at h2
    · rename_i hx
      cases h2
      obtain ⟨u, hu, kvs, rfl, s, t⟩ := c.obj n a _ q hx
      exact ⟨a, kvs, e, hu, s, t⟩
    · cases h2
  | _ => cases h
theorem asdT_ok {K : Frag} {w : Wd} {st : Sto} {d : D} {v : V} {ks : List (List Key)} {xs : List D} (c : Corr K w st) (r : Rel K w d v) (h : asdT st d = some (ks, xs)) : ∃ a kvs, v = .ref a ∧ w.H a = some (.dT kvs) ∧ kvs.map (·.1) = ks ∧ Rels K w xs (kvs.map (·.2)) := by
  cases d with
  | dT k' x' =>
    cases h
    unfold Rel at r
    obtain ⟨a, kvs, e, q, s, t⟩ := r
    exact ⟨a, kvs, e, fr_here q, s, t⟩
  | ref n =>
    unfold Rel at r
    obtain ⟨a, e, q⟩ := r
    have h2 : (match st[n]? with
      | some (.dT ks xs) => some (ks, xs)
      | _ => none) = some (ks, xs) := h
    split at h2
    · rename_i hx
      cases h2
      obtain ⟨u, hu, kvs, rfl, s, t⟩ := c.obj n a _ q hx
      exact ⟨a, kvs, e, hu, s, t⟩
    · cases h2
  | _ => cases h
/-- what the dict x holds at y: none, not a dict or not a key; some none, nothing there -/
def dgetO (x y : D) (st : Sto) : Option (Option D) := match asdK st x with
  | some (ks, xs) => (match keyD y with
    | some k => some (dval ks xs k)
    | none => none)
  | none => match asdT st x with
    | some (ks, xs) => (match keyT y with
      | some k => some (dval ks xs k)
      | none => none)
    | none => none
theorem dgetO_ok {K : Frag} {w : Wd} {st : Sto} {x y : D} {vx vy : V} {o : Option D} (c : Corr K w st) (rx : Rel K w x vx) (ry : Rel K w y vy) (h : dgetO x y st = some o) :
    ∃ a o', vx = .ref a ∧ DGet w.H a vy o' ∧ o'.isSome = o.isSome ∧ ∀ d, o = some d → ∃ v, o' = some v ∧ Rel K w d v := by
  unfold dgetO at h
  split at h
  · rename_i ks xs e1
    split at h
    · rename_i k e2
      cases h
      obtain ⟨a, kvs, rfl, q, s, t⟩ := asdK_ok c rx e1
      obtain rfl := keyD_ok ry e2
      refine ⟨a, _, rfl, DGet.k q, ?_, ?_⟩
      · have := dval_ok (j := k) s t
        cases ed : dval ks xs k with
        | none => rw [ed] at this; rw [this]; rfl
        | some d => rw [ed] at this; obtain ⟨v, e, _⟩ := this; rw [e]; rfl
      · intro d ed
        have := dval_ok (j := k) s t
        rw [ed] at this
        exact this
    · cases h
  · split at h
    · rename_i ks xs e1
      split at h
      · rename_i k e2
        cases h
        obtain ⟨a, kvs, rfl, q, s, t⟩ := asdT_ok c rx e1
        obtain ⟨b, rfl, hb⟩ := keyT_ok ry e2
        refine ⟨a, _, rfl, DGet.t q hb, ?_, ?_⟩
        · have := dval_ok (j := k) s t
          cases ed : dval ks xs k with
          | none => rw [ed] at this; rw [this]; rfl
          | some d => rw [ed] at this; obtain ⟨v, e, _⟩ := this; rw [e]; rfl
        · intro d ed
          have := dval_ok (j := k) s t
          rw [ed] at this
          exact this
      · cases h
    · cases h
section
variable {X : Cx} {Wx : WX} {a b c e o i : Expr} {es rs : List Expr} {ma mb mc me mo mi : M D} {ms : M (List D)} {pos p2 : Pos}
def dgetD : D2 := fun x y st => match dgetO x y st with
  | some (some d) => .ok d st
  | _ => .bad
theorem ce_dget {lv : Nat} (hr : Room lv X.A) (ho : CE X Wx o mo) (hi : CE X Wx i mi) (hs : NoSl i := by intro _ _; rfl) : CE X Wx (.Subscript o i pos) (e2 dgetD mo mi) := PE.mono (pe_dget (by have := hr.units; omega) ho hi hs) fun σ H Q h => by
  obtain ⟨mu, xi, env, st, re, c, h⟩ := h
  refine tG_mono (tG_bind (R := Rel X.K) re c h) fun v H1 ⟨mu1, xi1, d, st1, l1, r1, c1, re1, p1⟩ => ?_
  refine tG_mono (tG_bind (R := Rel X.K) re1 c1 p1) fun v2 H2 ⟨mu2, xi2, d2, st2, l2, r2, c2, re2, p2⟩ => ?_
  unfold dgetD at p2
  split at p2
  · rename_i d3 e3
    obtain ⟨a, o', ea, g, _, hd⟩ := dgetO_ok c2 (r1.le l2) r2 e3
    obtain ⟨v3, eo, r3⟩ := hd d3 rfl
    subst eo
    exact ⟨a, v3, ea, g, p2 ⟨H2, mu2, xi2⟩ v3 (.refl _) r3 c2⟩
  · exact p2.elim
def dinD (neg : Bool) : D2 := fun y x st => match dgetO x y st with
  | some o => .ok (.bl (if neg then !o.isSome else o.isSome)) st
  | none => .bad
theorem o_din {lv : Nat} (hr : Room lv X.A) : OpD X Wx (compareOp .In) (dinD false) := by
  intro pins s σ w st y x vy vx u v Q I c ry rx ru rv h
  unfold dinD at h
  split at h
  · rename_i o e1
    obtain ⟨a, o', rfl, g, e2, _⟩ := dgetO_ok c rx ry e1
    cases rv
    refine d_in (by have := hr.units; omega) I g ru fun s3 I3 => ⟨.bl o'.isSome, w.H, I3, rfl, ?_⟩
    rw [e2]
    exact h w _ (.refl _) (rel_bl _ _) c
  · exact h.elim
theorem o_dnotin {lv : Nat} (hr : Room lv X.A) : OpD X Wx (compareOp .NotIn) (dinD true) := by
  intro pins s σ w st y x vy vx u v Q I c ry rx ru rv h
  unfold dinD at h
  split at h
  · rename_i o e1
    obtain ⟨a, o', rfl, g, e2, _⟩ := dgetO_ok c rx ry e1
    cases rv
    refine d_notIn (by have := hr.units; omega) I g ru fun s3 I3 => ⟨.bl (!o'.isSome), w.H, I3, rfl, ?_⟩
    rw [e2]
    exact h w _ (.refl _) (rel_bl _ _) c
  · exact h.elim
/-- d[y] = v, d live -/
def dputO (x y z : D) (st : Sto) : Option Sto := match x with
  | .ref n => (match st[n]? with
    | some (.dK ks xs) => (match keyD y with
      | some k => if Ok (xs.length < sizeLine ∧ ks.Nodup) then some (st.set n (.dK (dkeys ks k) (dputs ks xs k z))) else none
      | none => none)
    | some (.dT ks xs) => (match keyT y with
      | some k => if Ok (xs.length < sizeLine ∧ ks.Nodup) then some (st.set n (.dT (dkeys ks k) (dputs ks xs k z))) else none
      | none => none)
    | _ => none)
  | _ => none
def sPut (mo mi me : M D) : MS := fun env st => (me env st).toS env fun z s1 => (mo env s1).toS env fun x s2 => (mi env s2).toS env fun y s3 => match dputO x y z s3 with
  | some s4 => .nx env s4
  | none => .bad
theorem cs_put {lv : Nat} (hr : Room lv X.A) (he : CE X Wx e me) (ho : CE X Wx o mo) (hi : CE X Wx i mi) (hs : swapsWith e (some (.Subscript o i p2)) pos.line X.env = pure false := by rfl) : CS X Wx (.Assign [.Subscript o i p2] e pos) (sPut mo mi me) :=
  PS.mono (ps_dput (by have := hr.units; omega) ho hi he hs) fun E σ H h => by
  obtain ⟨mu, xi, env, st, re, c, h⟩ := h
  refine tG_mono (tG_bindS (R := Rel X.K) re c h) fun v H1 ⟨mu1, xi1, d, st1, l1, r1, c1, re1, p1⟩ => ?_
  refine tG_mono (tG_bindS (R := Rel X.K) re1 c1 p1) fun v2 H2 ⟨mu2, xi2, d2, st2, l2, r2, c2, re2, p2⟩ => ?_
  refine tG_mono (tG_bindS (R := Rel X.K) re2 c2 p2) fun v3 H3 ⟨mu3, xi3, d3, st3, l3, r3, c3, re3, p3⟩ => ?_
  have rz := (r1.le l2).le l3
  have rx := r2.le l3
  cases es : dputO d2 d3 d st3 with
  | none =>
    rw [es] at p3
    exact p3.elim
  | some s4 =>
    rw [es] at p3
    unfold dputO at es
    split at es
    · rename_i n0
      unfold Rel at rx
      obtain ⟨a, ea, hn⟩ := rx
      split at es
      · rename_i ks xs hx
        split at es
        · rename_i k ek
          split at es
          · rename_i hz
            cases es
            obtain ⟨u, hu, kvs, rfl, s, t⟩ := c3.obj _ a _ hn hx
            obtain rfl := keyD_ok r3 ek
            have hlen : kvs.length < sizeLine := by have := t.length; rw [List.length_map] at this; rw [← this]; exact hz.1
            obtain ⟨m1, m2⟩ := putK_map (kvs := kvs) (by rw [s]; exact hz.2) k v
            rw [s] at m1 m2
            obtain ⟨l4, c4⟩ := c3.set (o := .dK (putK kvs k v)) (so := .dK (dkeys ks k) (dputs ks xs k d)) hn (List.getElem?_eq_some_iff.mp hx).1 ⟨_, rfl, m1, m2 t rz⟩
            exact ⟨a, _, ea, DPut.k hu hlen, p3 _ σ l4 (re3.le l4) c4⟩
          · cases es
        · cases es
      · rename_i ks xs hx
        split at es
        · rename_i k ek
          split at es
          · rename_i hz
            cases es
            obtain ⟨u, hu, kvs, rfl, s, t⟩ := c3.obj _ a _ hn hx
            obtain ⟨b, rfl, hb⟩ := keyT_ok r3 ek
            have hlen : kvs.length < sizeLine := by have := t.length; rw [List.length_map] at this; rw [← this]; exact hz.1
            obtain ⟨m1, m2⟩ := putK_map (kvs := kvs) (by rw [s]; exact hz.2) k v
            rw [s] at m1 m2
            obtain ⟨l4, c4⟩ := c3.set (o := .dT (putK kvs k v)) (so := .dT (dkeys ks k) (dputs ks xs k d)) hn (List.getElem?_eq_some_iff.mp hx).1 ⟨_, rfl, m1, m2 t rz⟩
            exact ⟨a, _, ea, DPut.t hu hb hlen, p3 _ σ l4 (re3.le l4) c4⟩
          · cases es
        · cases es
      · cases es
    · cases es
/-- {} -/
def eDT : M D := fun _ st => .ok (.ref st.length) (st ++ [.dT [] []])
def eDK : M D := fun _ st => .ok (.ref st.length) (st ++ [.dK [] []])
theorem ce_newT : CE X Wx (.Dict [] [] pos) eDT := PE.mono pe_dnewT fun σ H Q h => by
  obtain ⟨mu, xi, env, st, re, c, h⟩ := h
  intro p hp
  obtain ⟨l, c', e⟩ := c.push (p := p) (.dT []) (.dT [] []) hp ⟨[], rfl, rfl, .nil⟩
  exact h _ (.ref p) l (by unfold Rel; exact ⟨p, rfl, e⟩) c'
theorem ce_newK : CE X Wx (.Dict [] [] pos) eDK := PE.mono pe_dnewK fun σ H Q h => by
  obtain ⟨mu, xi, env, st, re, c, h⟩ := h
  intro p hp
  obtain ⟨l, c', e⟩ := c.push (p := p) (.dK []) (.dK [] []) hp ⟨[], rfl, rfl, .nil⟩
  exact h _ (.ref p) l (by unfold Rel; exact ⟨p, rfl, e⟩) c'

/-! ### operators by what stands there -/
def isStr : D → Bool
  | .str _ => true
  | _ => false
def isTup : D → Bool
  | .tup _ => true
  | _ => false
def isInt : D → Bool
  | .int _ => true
  | _ => false
def isIns (st : Sto) (x : D) : Bool := (insD st x).isSome
def addX : D2 := fun x y st => if isInt x = true then addI x y st else (if isStr x = true then addS x y st else (if isTup x = true then addT x y st else addL x y st))
theorem o_addX {X : Cx} {Wx : WX} : OpD X Wx (binaryOp .Add) addX := OpD.ite (fun x _ _ => isInt x) o_addI (OpD.ite (fun x _ _ => isStr x) o_addS (OpD.ite (fun x _ _ => isTup x) o_addT o_addL))
def mulX (lv : Bool) : D2 := fun x y st => if isInt x = true then mulI x y st else mulL lv x y st
theorem o_mulX {X : Cx} {Wx : WX} {lv : Bool} : OpD X Wx (binaryOp .Mult) (mulX lv) := OpD.ite (fun x _ _ => isInt x) o_mulI o_mulL
theorem o_iaddI {X : Cx} {Wx : WX} : OpD X Wx (inplaceOp .Add) addI := opd_int0 iop_add fun w i j => rel_int w _
theorem o_isubI {X : Cx} {Wx : WX} : OpD X Wx (inplaceOp .Sub) subI := opd_int0 iop_sub fun w i j => rel_int w _
end
end ND
end
noncomputable section
namespace ND
open PySem PySem.Spec L2 PyProof.Rows PySem.W
set_option maxHeartbeats 2000000 in
theorem meets_enum_tup {v : Value} {o : Obj} {H : Heap → Prop} (B : Begins v o H) :
    Meets (Builtin.«enumerate.__new__» ⟨[.type "enumerate", v], []⟩) (fun _ R s => H s.heap ∧
      R (.ok (.ret (.ref (s.heap.push o).objs.size))) { s with heap := (s.heap.push o).push { cls := .type "enumerate", data := .fields #[.none, .bool false, .ref s.heap.objs.size, rawInt 0, .none, .none] } }) :=
  .of_wp fun prog w A R s h => by
    obtain ⟨hp, g, d, tk, os⟩ := s
    obtain ⟨h1, h⟩ := h
    have hsub := sub_enumerate
    have q1 : ∀ {A' : Around} {E : Value → Shared → Prop} {Q : Value → Shared → Prop}, Q (.ref hp.objs.size) ⟨hp.push o, g, d, tk, os⟩ → wpAny (model prog w) A' (pyIter v) Q E ⟨hp, g, d, tk, os⟩ :=
      fun q => B.iter prog w _ _ ⟨hp, g, d, tk, os⟩ _ h1 q
    wp_walk using q1
    refine wpAny_stack_any fun st => wpAny_pure ?_
    split
    · rename_i c _ _ _ _ _
      cases (c == Value.type "enumerate")
      · wp_walk using q1
        exact ⟨_, rfl, h⟩
      · wp_walk using q1
        exact ⟨_, rfl, h⟩
    · wp_walk using q1
      exact ⟨_, rfl, h⟩
theorem call_enum_tup {prog : Program} {w : World} {A : Around} {E : Value → Shared → Prop} {s : Shared} {l : Addr} {items : Array Value} {Q : Value → Shared → Prop} (hL : s.heap.IsTuple l items)
    (h : ∀ h', IsEnum h' (s.heap.objs.size + 1) s.heap.objs.size 0 .none → h'.IsTupleIter s.heap.objs.size l 0 → h'.IsTuple l items → h'.objs.size = s.heap.objs.size + 2 →
      (∀ b o, s.heap.get? b = some o → h'.get? b = some o) → Q (.ref (s.heap.objs.size + 1)) { s with heap := h' }) :
    wpAny (model prog w) A (call (.type "enumerate") [.ref l]) Q E s := by
  refine callType_new F.called_enumerate (by decide) (F.typeCall_enumerate_1 _) (F.newCall_enumerate_1 _) (fun obj => F.args_object_init_2 obj _) F.entry_enumerate_new
    (meets_enum_tup (begins_tuple l items)) ⟨hL, ?_⟩
  have hz : (s.heap.push { cls := .type "tuple_iterator", data := .fields #[.ref l, .int 0 0] }).objs.size = s.heap.objs.size + 1 := Heap.size_push ..
  show _ ∧ _
  rw [hz]
  have he : IsEnum ((s.heap.push { cls := .type "tuple_iterator", data := .fields #[.ref l, .int 0 0] }).push
      { cls := .type "enumerate", data := .fields #[.none, .bool false, .ref s.heap.objs.size, rawInt 0, .none, .none] }) (s.heap.objs.size + 1) s.heap.objs.size 0 .none := by
    have := Heap.get?_push_size (s.heap.push { cls := .type "tuple_iterator", data := .fields #[.ref l, .int 0 0] })
      (o := { cls := .type "enumerate", data := .fields #[.none, .bool false, .ref s.heap.objs.size, rawInt 0, .none, .none] }) rfl
    rw [hz] at this
    exact this
  exact ⟨⟨_, he, rfl⟩, h _ he ⟨_, Heap.get?_push_of_some _ (Heap.get?_push_size _ rfl), rfl, rfl⟩ ((hL.push _).push _) (by rw [Heap.size_push, hz]) fun b o x => Heap.get?_push_of_some _ (Heap.get?_push_of_some _ x)⟩
/-- the tuple at a, each item in a new pair -/
def IteT (K : PySem.W.Frag) (a : Addr) : It :=
  ⟨fun i H => ∃ (xs : List V) (x : V), SqT K H a xs ∧ xs[i]? = some x, fun i H v H' => ∃ T x, v = .ref T ∧ H T = none ∧ H' = upd H T (.tup [.int (i : Nat), x]) ∧ ∀ xs, SqT K H a xs → xs[i]? = some x, fun i H => ∃ xs : List V, SqT K H a xs ∧ xs.length ≤ i⟩
theorem turn_enumT {P : Program} {w : World} {K : PySem.W.Frag} {elts : List Expr} {kk : Nat} {tpos : Pos} (a e it : Addr) (hea : e ≠ a) (hia : a ≠ it) :
    Turn P w K (.Tuple elts kk tpos) (IteT K a) [e, it] e (fun i h => (∃ old, IsEnum h e it ((i : Nat) : Int) old) ∧ h.IsTupleIter it a i ∧ e ≠ it) where
  mem := by simp
  obj := fun i h st b hb => by
    obtain ⟨⟨old, he⟩, ⟨o, ho, hc, hd⟩, _⟩ := st
    have e' : b = e ∨ b = it := by simpa using hb
    rcases e' with z | z
    · rw [z]; exact ⟨_, he, fun v q => nomatch q⟩
    · rw [z]; exact ⟨o, ho, fun v q => by rw [hd] at q; cases q⟩
  keep := fun i h h' st k => let ⟨⟨old, he⟩, hi, hne⟩ := st; ⟨⟨old, k e (by simp) _ he⟩, hi.at fun o q => k it (by simp) o q, hne⟩
  item := by
    intro X hP hw hK hc i pins s σ H E I hf st hg
    subst hP hw hK
    obtain ⟨⟨old, he⟩, hit, hne⟩ := st
    obtain ⟨xs, x, hq, hx⟩ := hg
    obtain ⟨its, rv, p, hz⟩ := I.tuple hq
    obtain ⟨u, hu, ru⟩ := rv.get hx
    have hel : e < s.heap.objs.size := Heap.lt_size he
    have hil : it < s.heap.objs.size := by obtain ⟨_, q, _⟩ := hit; exact Heap.lt_size q
    have hh : X.A.in1.handled = none := by simp [I.ok.hd hc]
    have hlt : i < its.toArray.size := by
      have := (List.getElem?_eq_some_iff.mp hu).1
      simpa using this
    refine wpAny_pyNext_enum_itemD (Draws.tuple hh it a hia its.toArray) he ⟨hit, p⟩ hlt hne (by simp [hne, hea]) fun y h' tk hPx ho hst hT hsz hk => ?_
    have hyu : y = u := by
      have h1 : its.toArray[i]? = some y := hPx
      have h2 : its.toArray[i]? = some u := by simpa using hu
      rw [h1] at h2
      exact Option.some.inj h2
    subst hyu
    refine ⟨_, rfl, wpAny_letOwnedTupleGo_enum (s := { s with heap := h', toks := tk + 1 }) ho fun h'' he' sb => ?_⟩
    have hT2 : h''.get? s.heap.objs.size = some { cls := .type "tuple", data := .seq #[.int i tk, y] } := (sb.2 _ (Nat.ne_of_gt hel)).trans hT
    have new : ObjOk X.prog X.w (upd H s.heap.objs.size (.tup [.int (i : Nat), x])) h'' s.heap.objs.size (.tup [.int (i : Nat), x]) :=
      ⟨by show 2 ≤ sizeLine; decide, [.int i tk, y], .cons ⟨_, rfl⟩ (.cons ru .nil), ⟨_, hT2, rfl, _, rfl⟩⟩
    have I1 : Inv X pins σ (upd H s.heap.objs.size (.tup [.int (i : Nat), x])) { s with heap := h'', toks := tk + 1 } :=
      I.turnedNew (ch := [e, it]) (fun b ob hb q => (sb.2 b (fun z => hb (by simp [z]))).trans (hk b ob (fun z => hb (by simp [z])) (fun z => hb (by simp [z])) q)) hf (Nat.le_refl _) new
    refine ⟨.ref s.heap.objs.size, _, I1, rfl, ⟨_, x, rfl, I.hok.fresh (Nat.le_refl _), rfl, fun ys hy => ?_⟩, ⟨⟨y, ?_⟩, hst.1.at fun o q => (sb.2 it (Ne.symm hne)).trans q, hne⟩, fun b hb => ?_⟩
    · rw [I.tuple_inj hy hq]
      exact hx
    · have e1 : ((i + 1 : Nat) : Int) = (i : Int) + 1 := by omega
      rw [e1]; exact he'
    · have hb' : b < s.heap.objs.size := by
        have e' : b = e ∨ b = it := by simpa using hb
        rcases e' with z | z
        · rw [z]; exact hel
        · rw [z]; exact hil
      rw [upd_ne (Nat.ne_of_lt hb')]
      exact (hf b hb).1
  done := by
    intro X hP hw hK hc i pins s σ H E I hf st hg
    subst hP hw hK
    obtain ⟨⟨old, he⟩, hit, hne⟩ := st
    obtain ⟨xs, hq, hx⟩ := hg
    obtain ⟨its, rv, p, hz⟩ := I.tuple hq
    obtain ⟨f0, f1, f2, f3, f4, f5⟩ := hf it (by simp)
    have hl := rv.length
    have hh : X.A.in1.handled = none := by simp [I.ok.hd hc]
    have D : Draws X.prog X.w X.A.in1 it [it, a] i (fun _ _ => True) (fun j h => j = i ∧ h.IsTupleIter it a j ∧ h.IsTuple a its.toArray) :=
      ⟨fun _ _ st => let ⟨o, ho, _⟩ := st.2.1; ⟨o, ho⟩, fun _ _ _ st hk => ⟨st.1, st.2.1.at fun o e => hk it (by simp) o e, st.2.2.at fun o e => hk a (by simp) o e⟩, fun j s Q E hi st _ => absurd st.1 (Nat.ne_of_lt hi),
        fun s Q E st hE => wpAny_nextOf_tuple_end hh st.2.1 st.2.2 (by simp; omega) hE⟩
    exact wpAny_pyNext_enum_endD D he ⟨rfl, hit, p⟩ fun h' eb => ⟨rfl, I.turned (t' := s.toks) (fun b o hb q => eb b o hb q) f0 f1 f3 f4 f5⟩
  self := fun A i s Q E st h => let ⟨⟨_, he⟩, _⟩ := st; wpAny_pyIter_enum he h
def iEnumT (K : PySem.W.Frag) (ta : TA) : TI := fun σ H R => ta σ H fun vs H1 => ∃ a xs, vs = [.ref a] ∧ SqT K H1 a xs ∧ R (IteT K a) H1
theorem pi_enumT {X : Cx} {e : Expr} {ta : TA} {p pos tpos : Pos} {elts : List Expr} {kk : Nat} (hg : Gl X "enumerate") (hm : X.mg "enumerate" = none) (ha : PA X [e] ta) (hs : starEach [e] X.env = [(false, eval e X.env)] := by rfl) :
    PI X (.Tuple elts kk tpos) (.Call (.Name "enumerate" p) [e] [] pos) (iEnumT X.K ta) := by
  refine ⟨fun pins s σ H R I h => ?_⟩
  refine Call_ (ld_blt I hg hm boot_enumerate (PyProof.Rows.callWith_type1 (thn (ha.run pos pins s σ H _ I h) fun us s1 ⟨vs, H1, I1, r1, q1⟩ => ?_) hs rfl))
  obtain ⟨a, xs, ex, hq, q⟩ := q1
  subst ex
  cases r1 with
  | cons r rr =>
    cases rr
    cases r
    obtain ⟨its, rv, p', hz⟩ := I1.tuple hq
    have hT : s1.heap.IsTuple a its.toArray := p'
    have hal : a < s1.heap.objs.size := by
      obtain ⟨o, ho, _⟩ := id hT
      exact Heap.lt_size ho
    refine call_enum_tup hT fun h' he hit hT' hsz hk => wpAny_pyIter_enum he ?_
    have I2 : Inv X pins σ H1 { s1 with heap := h' } := I1.kept (t' := s1.toks) hk
    refine ⟨s1.heap.objs.size + 1, [s1.heap.objs.size + 1, s1.heap.objs.size], _, _, H1, rfl, I2, turn_enumT a (s1.heap.objs.size + 1) s1.heap.objs.size (Nat.ne_of_gt (Nat.lt_succ_of_lt hal)) (Nat.ne_of_lt hal), ⟨⟨.none, he⟩, hit, Nat.succ_ne_self _⟩, fun b hb => ?_, q⟩
    have e' : b = s1.heap.objs.size + 1 ∨ b = s1.heap.objs.size := by simpa using hb
    have hle : s1.heap.objs.size ≤ b := by
      rcases e' with z | z
      · rw [z]; exact Nat.le_add_right _ _
      · rw [z]; exact Nat.le_refl _
    exact I1.fpOk hle (I1.hok.fresh hle)
theorem wk_enumT {K : PySem.W.Frag} {w₀ : Wd} {q : Addr} {xs : List D} {vs : List V} (h : SqT K w₀.fr q vs) (s : Rels K w₀ xs vs) : Wk K w₀ (.fz (enumD 0 xs)) (IteT K q) := fun i w st l c => by
  have h' : SqT K w.H q vs := ex_t (fun _ _ => fr_here) (ex_t l.fr h)
  refine ⟨fun e => ⟨vs, h', ?_⟩, fun d e => ?_⟩
  · have e2 : (enumD 0 xs)[i]? = none := Option.some.inj e
    have e3 := List.getElem?_eq_none_iff.mp e2
    rw [enumD_len] at e3
    rw [← s.length]
    exact e3
  · have e2 : (enumD 0 xs)[i]? = some d := Option.some.inj e
    rw [enumD_at] at e2
    cases e3 : xs[i]? with
    | none =>
      rw [e3] at e2
      cases e2
    | some x0 =>
      rw [e3] at e2
      cases e2
      obtain ⟨v, hv, rv⟩ := s.get e3
      refine ⟨⟨vs, v, h', hv⟩, fun x H' y => ?_⟩
      obtain ⟨T, x1, ex, hT, eH, y⟩ := y
      subst ex eH
      have e4 := y vs h'
      rw [hv] at e4
      cases e4
      obtain ⟨l2, c2, e5⟩ := c.new (.tup [.int (i : Nat), v]) hT
      refine ⟨fun b u hb => by
        rw [upd_ne fun e => by
          rw [e, hT] at hb
          cases hb]
        exact hb, ?_⟩
      unfold Rel
      refine ⟨T, _, rfl, e5, .cons ?_ (.cons ((Rel.sub l _ _ rv).le l2) .nil)⟩
      rw [show (0 + i : Nat) = i by omega]
      exact rel_int _ _
def iEnumDT (m : M D) : M Src := fun env st => (m env st).bind fun d s1 => match d with
  | .tup xs => .ok (.fz (enumD 0 xs)) s1
  | _ => .bad
section
variable {X : Cx} {Wx : WX} {a : Expr} {ma : M D} {tpos pos p : Pos}
theorem ci_enumT {elts : List Expr} {kk : Nat} (hm : X.mg "enumerate" = none) (ha : CE X Wx a ma) (hg : Gl X "enumerate" := by rfl) (hs : starEach [a] X.env = [(false, eval a X.env)] := by rfl) :
    CI X Wx (.Tuple elts kk tpos) (.Call (.Name "enumerate" p) [a] [] pos) (iEnumDT ma) := PI.mono (pi_enumT hg hm (pa_cons ha pa_nil hs) hs) fun σ H R h => by
  obtain ⟨mu, xi, env, st, re, c, h⟩ := h
  refine tG_mono (tG_bind (R := Rel X.K) re c h) fun v H1 ⟨mu1, xi1, d, st1, l1, r1, c1, re1, p1⟩ => ?_
  cases d with
  | tup xs =>
    unfold Rel at r1
    obtain ⟨q, vs, e, hq, s⟩ := r1
    exact ⟨q, vs, by rw [e], .inl (.inl (fr_here hq)), p1 ⟨H1, mu1, xi1⟩ _ (.refl _) (wk_enumT (.inl (.inl hq)) s) c1⟩
  | _ => exact p1.elim
end
end ND
end
namespace ND
open PySem L2 PyProof.Rows PySem.W
theorem takes_no {X : Cx} : Takes X noW := fun u s' ⟨_, _, _, _, _, _, _, _, _, _, _, _, _, _, _, _, x⟩ => x.elim
/-- a class's body -/
def cbody : Stmt → List Stmt
  | .ClassDef (body := b) .. => b
  | _ => []
/-- own facts: a list of Bools about K -/
abbrev XF : Type := Frag → List Bool
abbrev xfB (xf : XF) : Frag → Bool := fun K => (xf K).all id
structure HC (fa : List He.Fa) (fn : List He.DefD) (xf : XF) (w : World) (K : Frag) (mg : Str → Option Value) : Prop where
  ex : ∃ hp : Heap, K.In hp ∧ hp.Ns mainGlobals mg ∧ He.SaysX fa fn [] [] (xfB xf) w hp K
section
variable {fa : List He.Fa} {fn : List He.DefD} {xf : XF} {w : World} {K : Frag} {mg : Str → Option Value}
theorem HC.fact (C : HC fa fn xf w K mg) (i : Nat) {f : He.Fa} (h : fa[i]? = some f) : f.ok K = true := by
  obtain ⟨hp, X, G, c⟩ := C.ex
  exact He.SaysD.fact c.t.d i h
theorem HC.def_ (C : HC fa fn xf w K mg) (i : Nat) {d : He.DefD} (h : fn[i]? = some d) : ∃ fd, FunD K d.name d.qual d.params d.body d.scope (d.dvs K) (d.kws K) (He.fAd K d.at_) fd := by
  obtain ⟨hp, X, G, c⟩ := C.ex
  exact He.SaysD.def_ c.t.d i h
theorem HC.xt (C : HC fa fn xf w K mg) (i : Nat) {b : Bool} (h : (xf K)[i]? = some b) : b = true := by
  obtain ⟨hp, X, G, c⟩ := C.ex
  have := List.all_eq_true.mp c.more b (List.mem_of_getElem? h)
  exact this
theorem HC.glo (C : HC fa fn xf w K mg) (i : Nat) {x : Str} (h : fa[i]? = some (.glo x)) : mg x = some (.ref (He.ga K x)) := by
  obtain ⟨hp, X, G, c⟩ := C.ex
  exact He.glo_ok X G (He.SaysD.fact c.t.d i h)
theorem HC.free (C : HC fa fn xf w K mg) (i : Nat) {x : Str} (h : fa[i]? = some (.free x)) : mg x = none := by
  obtain ⟨hp, X, G, c⟩ := C.ex
  exact He.free_ok X G (He.SaysD.fact c.t.d i h)
end
end ND
namespace ND
open PySem L2 PyProof.Rows PySem.W
theorem walk_ofX {l : PySem.W.OpenLaw} {n k : Nat} {q : Program} {loose : List Str} {XP : (Str → Option Value) → Heap → Prop} {YP : World → Heap → Prop} {d : DefRec} {CX : World → CXT} {x : Str}
    (hn : l.most = some n) (hn2 : n ≤ sizeLine) (hdf : d.params.defaults = []) (hr : Room k callerA)
    (F : ∀ (w : World) (mg : Str → Option Value) (fa : Addr) (h : Heap), YP w h → h.Ns mainGlobals mg → mg d.name = some (.ref fa) →
      ∃ (K : PySem.W.Frag) (fd : FuncData) (sp : Sp), K.In h ∧ (∀ (s : Shared) (u : Value), BindsTo s fd ⟨[u], []⟩ [(x, u)]) ∧
        (∀ (H : Hp) (a : Addr) (ns : List Int), ns.length ≤ n → Only H → SqL K H a (ns.map V.int) → sp [.ref a] H (fun v _ => v = .bl true) fun _ _ _ => False) ∧
        ∀ base : Heap, K.In base → base.Ns mainGlobals mg → FnOk l.prog w K mg base (CX w) k fa fd [x] sp)
    (hCX : ∀ (w : World) (H : Hp) (s : Shared) (e : Value) (s' : Shared), CX w [] H s (fun _ _ _ => False) e s' → False) :
    PySem.W.WalkO q loose XP YP l.row.toRowW d [] (fun f vs => PySem.call f vs) := by
  refine Att.attach_call hn hdf fun w s0 s1 mg mb fa o pm cd doc a vs ns G Y ho hd hcd hmg hobj hints hlen hg => ?_
  obtain ⟨K, fd, sp, KX, hb, hsp, hF⟩ := F w mg fa _ Y G.T.g hmg
  exact law_call KX G.T.g G.T.b G.T.builtins G.T.nolimit hg hobj hints (Nat.le_trans hlen hn2) hr hF hb (fun H hO hS => hsp H a ns hlen hO hS) fun H e s' => hCX w H s1 e s'
/-- the law's promise from its mirror -/
theorem sp_of {K : Frag} {F : DF} {H : Hp} {a : Addr} {ns : List Int} {st : Sto} (hS : SqL K H a (ns.map V.int)) (h : F [.ext ns] [] = .ok (.bl true) st) : spM K F [.ref a] H (fun v _ => v = .bl true) fun _ _ _ => False := by
  have e : (⟨H, [], []⟩ : Wd).fr = H := by
    funext b
    unfold Wd.fr
    rw [if_neg (by simp)]
  refine ⟨[], [], [.ext ns], [], .cons ?_ .nil, ⟨List.nodup_nil, rfl, fun b hb => absurd hb List.not_mem_nil, fun b hb => absurd hb List.not_mem_nil, fun n b o hb => by cases hb⟩, ?_⟩
  · unfold Rel
    refine ⟨a, rfl, ?_⟩
    rw [e]
    exact hS
  · rw [h]
    intro w' v l r c
    unfold Rel at r
    exact r
end ND
noncomputable section
namespace ND
open PySem L2
theorem ok_true {p : Prop} (h : p) : Ok p = True := eq_true (show Ok p from h)
@[simp] theorem ok_tt : Ok True = True := ok_true True.intro
@[simp] theorem ok_szl {n : Nat} (h : n ≤ 16777216) : Ok (n ≤ sizeLine) = True := ok_true (by rw [sizeLine_eq]; exact h)
@[simp] theorem ok_szs {n : Nat} (h : n < 16777216) : Ok (n < sizeLine) = True := ok_true (by rw [sizeLine_eq]; exact h)
/-! ### strictness: simp goes into what runs first -/
theorem bind_cong {α β : Type} {r r' : Res α} {f : α → Sto → Res β} (h : r = r') : r.bind f = r'.bind f := by rw [h]
theorem toS_cong {α : Type} {r r' : Res α} {env : Env} {f : α → Sto → SRes} (h : r = r') : r.toS env f = r'.toS env f := by rw [h]
@[simp] theorem toS_ok {α : Type} {a : α} {st : Sto} {env : Env} {f : α → Sto → SRes} : (Res.ok a st).toS env f = f a st := rfl
def SRes.seq (r : SRes) (n : MS) : SRes := match r with
  | .nx e s => n e s
  | r => r
theorem seq_cong {r r' : SRes} {n : MS} (h : r = r') : r.seq n = r'.seq n := by rw [h]
@[simp] theorem seq_nx {e : Env} {s : Sto} {n : MS} : (SRes.nx e s).seq n = n e s := rfl
@[simp] theorem seq_rt {d : D} {s : Sto} {n : MS} : (SRes.rt d s).seq n = .rt d s := rfl
@[simp] theorem seq_bk {e : Env} {s : Sto} {n : MS} : (SRes.bk e s).seq n = .bk e s := rfl
@[simp] theorem seq_ct {e : Env} {s : Sto} {n : MS} : (SRes.ct e s).seq n = .ct e s := rfl
section
variable {env : Env} {st : Sto} {ma mb mc : M D} {ms : M (List D)} {m n : MS} {t tb : M Bool} {d x y z : D}
@[simp] theorem ev_sSeq : sSeq m n env st = (m env st).seq n := by
  unfold sSeq SRes.seq
  cases m env st <;> rfl
@[simp] theorem ev_sNil : sNil env st = .nx env st := rfl
@[simp] theorem ev_sRet : sRet ma env st = (ma env st).toS env fun d s1 => .rt d s1 := rfl
@[simp] theorem ev_sRetN : sRetN env st = .rt .non st := rfl
@[simp] theorem ev_sBrk : sBrk env st = .bk env st := rfl
@[simp] theorem ev_sCnt : sCnt env st = .ct env st := rfl
@[simp] theorem ev_sDrop : sDrop ma env st = (ma env st).toS env fun _ s1 => .nx env s1 := rfl
@[simp] theorem ev_sIf : sIf t m n env st = (t env st).toS env fun b s1 => if b = true then m env s1 else n env s1 := rfl
@[simp] theorem ev_sSet {i : Nat} : sSet i ma env st = (ma env st).toS env fun d s1 => .nx (env.set i (some d)) s1 := rfl
@[simp] theorem ev_sAug {i : Nat} {g : D2} : sAug i g ma env st = (match env[i]? with
  | some (some x) => (ma env st).toS env fun y s1 => (g x y s1).toS env fun z s2 => .nx (env.set i (some z)) s2
  | _ => .bad) := rfl
theorem set_new {i : Nat} : sSet i (eLst true aNil) env st = .nx (env.set i (some (.ref st.length))) (st ++ [.lst []]) := by
  have h : Ok (([] : List D).length ≤ sizeLine) := Nat.zero_le _
  have e : eLst true aNil env st = .ok (.ref st.length) (st ++ [.lst []]) := by
    unfold eLst aNil
    show (if Ok (([] : List D).length ≤ sizeLine) then mkL true [] st else .bad) = mkL true [] st
    rw [if_pos h]
  rw [ev_sSet, e, toS_ok]
@[simp] theorem ev_sSetIx : sSetIx ma mb mc env st = (mc env st).toS env fun z s1 => (ma env s1).toS env fun x s2 => (mb env s2).toS env fun y s3 => match setL x y z s3 with
  | some s4 => .nx env s4
  | none => .bad := rfl
@[simp] theorem ev_sFldD {ft : FT} {f : String} : sFldD ft f ma mb env st = (mb env st).toS env fun y s1 => (ma env s1).toS env fun x s2 => match x with
  | .ref n => (match s2[n]? with
    | some (.ins k fs xs) => if Ok ((k, f) ∈ ft ∧ fs.length < 1000) then .nx env (s2.set n (.ins k (fput fs xs f y).1 (fput fs xs f y).2)) else .bad
    | _ => .bad)
  | _ => .bad := rfl
@[simp] theorem ev_sPut : sPut ma mb mc env st = (mc env st).toS env fun z s1 => (ma env s1).toS env fun x s2 => (mb env s2).toS env fun y s3 => match dputO x y z s3 with
  | some s4 => .nx env s4
  | none => .bad := rfl
@[simp] theorem ev_sFor {mi : M Src} {g : GD} : sFor mi g m env st = (mi env st).toS env fun S s1 => loopR S.rd g m S.n 0 env s1 := rfl
@[simp] theorem ev_sPar {i j : Nat} : sPar i j ms env st = (ms env st).toS env fun ds s1 => match ds with
  | [a, b] => .nx ((env.set i (some a)).set j (some b)) s1
  | _ => .bad := by
  unfold sPar
  rfl
@[simp] theorem ev_eK : eK d env st = .ok d st := rfl
@[simp] theorem ev_eVar {i : Nat} : eVar i env st = (match env[i]? with
  | some (some d) => .ok d st
  | _ => .bad) := rfl
@[simp] theorem ev_e2 {g : D2} : e2 g ma mb env st = (ma env st).bind fun x s1 => (mb env s1).bind fun y s2 => g x y s2 := rfl
@[simp] theorem ev_aNil : aNil env st = .ok [] st := rfl
@[simp] theorem ev_aCons : aCons ma ms env st = (ma env st).bind fun d s1 => (ms env s1).bind fun ds s2 => .ok (d :: ds) s2 := rfl
@[simp] theorem ev_eC {g : DF} : eC g ms env st = (ms env st).bind fun ds s1 => g ds s1 := rfl
@[simp] theorem ev_eC0 {g : DF} : eC0 g env st = g [] st := rfl
@[simp] theorem ev_toB : toB ma env st = (ma env st).bind fun d s1 => match d with
  | .bl b => .ok b s1
  | _ => .bad := rfl
@[simp] theorem ev_tru : tru ma env st = (ma env st).bind fun d s1 => match truD s1 d with
  | some b => .ok b s1
  | none => .bad := rfl
@[simp] theorem ev_bAnd : bAnd t tb env st = (t env st).bind fun b s1 => if b = true then tb env s1 else .ok false s1 := rfl
@[simp] theorem ev_bOr : bOr t tb env st = (t env st).bind fun b s1 => if b = true then .ok true s1 else tb env s1 := rfl
@[simp] theorem ev_bNot : bNot t env st = (t env st).bind fun b s1 => .ok (!b) s1 := rfl
@[simp] theorem ev_bYes : bYes env st = .ok true st := rfl
@[simp] theorem ev_eIf : eIf t ma mb env st = (t env st).bind fun b s1 => if b = true then ma env s1 else mb env s1 := rfl
@[simp] theorem ev_eAnd : eAnd ma mb env st = (ma env st).bind fun x s1 => match truD s1 x with
  | some true => mb env s1
  | some false => .ok x s1
  | none => .bad := rfl
@[simp] theorem ev_eOr : eOr ma mb env st = (ma env st).bind fun x s1 => match truD s1 x with
  | some true => .ok x s1
  | some false => mb env s1
  | none => .bad := rfl
@[simp] theorem ev_eNot : eNot ma env st = (ma env st).bind fun x s1 => match truD s1 x with
  | some b => .ok (.bl (!b)) s1
  | none => .bad := by
  rfl
@[simp] theorem ev_eLst {lv : Bool} : eLst lv ms env st = (ms env st).bind fun xs s1 => if Ok (xs.length ≤ sizeLine) then mkL lv xs s1 else .bad := rfl
@[simp high] theorem ev_eLst0 {lv : Bool} : eLst lv aNil env st = mkL lv [] st := by
  have h : Ok (([] : List D).length ≤ sizeLine) := Nat.zero_le _
  unfold eLst aNil
  show (if Ok (([] : List D).length ≤ sizeLine) then mkL lv [] st else .bad) = mkL lv [] st
  rw [if_pos h]
@[simp high] theorem ev_eTup0 : eTup aNil env st = .ok (.tup []) st := by
  have h : Ok (([] : List D).length ≤ sizeLine) := Nat.zero_le _
  unfold eTup aNil
  show (if Ok (([] : List D).length ≤ sizeLine) then Res.ok (D.tup []) st else .bad) = Res.ok (D.tup []) st
  rw [if_pos h]
@[simp] theorem ev_eTup : eTup ms env st = (ms env st).bind fun xs s1 => if Ok (xs.length ≤ sizeLine) then .ok (.tup xs) s1 else .bad := rfl
@[simp] theorem ev_eSl {ml mh : M (Option Int)} : eSl ma ml mh env st = (ma env st).bind fun x s1 => (ml env s1).bind fun lo s2 => (mh env s2).bind fun hi s3 => slD x lo hi s3 := rfl
@[simp] theorem ev_oNone : oNone env st = .ok none st := rfl
@[simp] theorem ev_oSome : oSome ma env st = (ma env st).bind fun d s1 => match d with
  | .int i => .ok (some i) s1
  | _ => .bad := rfl
@[simp] theorem ev_eFld {ft : FT} {f : String} : eFld ft f ma env st = (ma env st).bind fun x s1 => match insD s1 x with
  | some (k, fs, xs) => if (k, f) ∈ ft then (match fget fs xs f with
    | some d => .ok d s1
    | none => .bad) else .bad
  | none => .bad := rfl
@[simp] theorem ev_eMeth {mt : MT} {f : String} : eMeth mt f ma ms env st = (ma env st).bind fun x s1 => match insD s1 x with
  | some (k, fs, _) => (match mfind mt k f with
    | some F => if f ∈ fs then .bad else (ms env s1).bind fun ds s2 => F (x :: ds) s2
    | none => .bad)
  | none => .bad := rfl
@[simp] theorem ev_eBM {g : BM} : eBM g ma ms env st = (ma env st).bind fun x s1 => match seqL s1 x with
  | some _ => (ms env s1).bind fun ds s2 => g x ds s2
  | none => .bad := rfl
@[simp] theorem ev_eCh {c : MC} : eCh ma c env st = (ma env st).bind fun x s1 => c x env s1 := rfl
@[simp] theorem ev_chL {g : D2} {c : MC} : chL g mb c x env st = (mb env st).bind fun y s1 => (g x y s1).bind fun r s2 => match r with
  | .bl true => c y env s2
  | .bl false => .ok (.bl false) s2
  | _ => .bad := rfl
@[simp] theorem ev_iVal : iVal ma env st = (ma env st).bind srcD := rfl
def rng1 (j : Int) (st : Sto) : Res Src := if Ok (-(2 ^ 62) ≤ j ∧ j < 2 ^ 62) then .ok (.fz (rangeD 0 j.toNat)) st else .bad
def rng2 (i j : Int) (st : Sto) : Res Src := if Ok (-(2 ^ 62) ≤ i ∧ i < 2 ^ 62 ∧ -(2 ^ 62) ≤ j ∧ j < 2 ^ 62) then .ok (.fz (rangeD i (j - i).toNat)) st else .bad
theorem rng1_ok {j : Int} {st : Sto} (h0 : -1000000000000 ≤ j) (h : j < 1000000000000) : rng1 j st = .ok (.fz (rangeD 0 j.toNat)) st := if_pos (show Ok _ from (⟨by omega, by omega⟩ : -(2 ^ 62) ≤ j ∧ j < 2 ^ 62))
theorem rng2_ok {i j : Int} {st : Sto} (h0 : -1000000000000 ≤ i) (h : i < 1000000000000) (h2 : -1000000000000 ≤ j) (h3 : j < 1000000000000) : rng2 i j st = .ok (.fz (rangeD i (j - i).toNat)) st := if_pos (show Ok _ from (⟨by omega, by omega, by omega, by omega⟩ : -(2 ^ 62) ≤ i ∧ i < 2 ^ 62 ∧ -(2 ^ 62) ≤ j ∧ j < 2 ^ 62))
@[simp] theorem ev_iR1 : iR1 ma env st = (ma env st).bind fun d s1 => match d with
  | .int j => rng1 j s1
  | _ => .bad := rfl
@[simp] theorem ev_iR2 : iR2 ma mb env st = (ma env st).bind fun d s1 => (mb env s1).bind fun d2 s2 => match d, d2 with
  | .int i, .int j => rng2 i j s2
  | _, _ => .bad := rfl
@[simp] theorem ev_iEnumD : iEnumD ma env st = (ma env st).bind fun d s1 => match d with
  | .lst xs => .ok (.fz (enumD 0 xs)) s1
  | _ => .bad := rfl
@[simp] theorem ev_iEnumDT : iEnumDT ma env st = (ma env st).bind fun d s1 => match d with
  | .tup xs => .ok (.fz (enumD 0 xs)) s1
  | _ => .bad := rfl
@[simp] theorem ev_eComp {lv : Bool} {mi : M Src} {g : GD} {vs : List Nat} : eComp lv mi g t ma vs env st = (mi env st).bind fun S s1 => (compR S.rd g t ma (wipeD env vs) S.n 0 [] s1).bind fun acc s2 => mkL lv acc s2 := rfl
@[simp] theorem ev_gNm {i : Nat} : gNm i d env = some (env.set i (some d)) := rfl
@[simp] theorem ev_eDT : eDT env st = .ok (.ref st.length) (st ++ [.dT [] []]) := rfl
@[simp] theorem ev_wipe0 : wipeD env [] = env := rfl
@[simp] theorem ev_wipe1 {v : Nat} {vs : List Nat} : wipeD env (v :: vs) = (wipeD env vs).set v none := rfl
@[simp] theorem ev_mkL_f {xs : List D} : mkL false xs st = .ok (.lst xs) st := rfl
@[simp] theorem ev_mkL_t {xs : List D} : mkL true xs st = .ok (.ref st.length) (st ++ [.lst xs]) := rfl
/-! ### operations -/
@[simp] theorem op_i2 {C : Int → Int → Bool} {g : Int → Int → D} {i j : Int} : i2 C g (.int i) (.int j) st = if C i j = true then .ok (g i j) st else .bad := rfl
@[simp] theorem op_addI {i j : Int} : addI (.int i) (.int j) st = .ok (.int (i + j)) st := rfl
@[simp] theorem op_subI {i j : Int} : subI (.int i) (.int j) st = .ok (.int (i - j)) st := rfl
@[simp] theorem op_ltI {i j : Int} : ltI (.int i) (.int j) st = .ok (.bl (decide (i < j))) st := rfl
@[simp] theorem op_leI {i j : Int} : leI (.int i) (.int j) st = .ok (.bl (decide (i ≤ j))) st := rfl
@[simp] theorem op_gtI {i j : Int} : gtI (.int i) (.int j) st = .ok (.bl (decide (j < i))) st := rfl
@[simp] theorem op_geI {i j : Int} : geI (.int i) (.int j) st = .ok (.bl (decide (j ≤ i))) st := rfl
theorem op_mulI {i j : Int} (h : i.natAbs.log2 + j.natAbs.log2 < 1000000) : mulI (.int i) (.int j) st = .ok (.int (i * j)) st := by
  show (if mulC i j = true then Res.ok (D.int (i * j)) st else .bad) = _
  rw [if_pos (by unfold mulC; exact ok_mk h)]
theorem op_divI {i j : Int} (h : 0 < j) (h2 : j.natAbs.log2 < 9000) : divI (.int i) (.int j) st = .ok (.int (i / j)) st := by
  show (if divC i j = true then Res.ok (D.int (i / j)) st else .bad) = _
  rw [if_pos (by unfold divC; rw [ok_mk h, ok_mk h2] <;> rfl)]
theorem op_modI {i j : Int} (h : 0 < j) : modI (.int i) (.int j) st = .ok (.int (i % j)) st := by
  show (if decide (Ok (0 < j)) = true then Res.ok (D.int (i % j)) st else .bad) = _
  rw [if_pos (ok_mk h)]
theorem powC_mk {i j : Int} (h1 : 0 ≤ j) (h2 : j ≤ 1000000) (h3 : i.natAbs < 2 ^ 64) : powC i j = true := by
  unfold powC
  rw [ok_mk h1, ok_mk h2, ok_mk h3]
  rfl
theorem op_powI {i j : Int} (h : powC i j = true) : powI (.int i) (.int j) st = .ok (.int (i ^ j.toNat)) st := by
  show (if powC i j = true then Res.ok (D.int (i ^ j.toNat)) st else .bad) = _
  rw [if_pos h]
@[simp] theorem op_addX_i {i : Int} : addX (.int i) y st = addI (.int i) y st := rfl
@[simp] theorem op_addX_s {s : Str} : addX (.str s) y st = addS (.str s) y st := rfl
@[simp] theorem op_addX_t {xs : List D} : addX (.tup xs) y st = addT (.tup xs) y st := rfl
@[simp] theorem op_addX_l {xs : List D} : addX (.lst xs) y st = addL (.lst xs) y st := rfl
@[simp] theorem op_addX_r {n : Nat} : addX (.ref n) y st = addL (.ref n) y st := rfl
@[simp] theorem op_mulX_i {lv : Bool} {i : Int} : mulX lv (.int i) y st = mulI (.int i) y st := rfl
@[simp] theorem op_mulX_l {lv : Bool} {xs : List D} : mulX lv (.lst xs) y st = mulL lv (.lst xs) y st := rfl
@[simp] theorem op_isN_non {b : Bool} : isN b .non .non st = .ok (.bl (!b)) st := rfl
@[simp] theorem op_isN_tup {b : Bool} {xs : List D} : isN b (.tup xs) .non st = .ok (.bl b) st := rfl
@[simp] theorem op_isN_lst {b : Bool} {xs : List D} : isN b (.lst xs) .non st = .ok (.bl b) st := rfl
@[simp] theorem op_isN_ins {b : Bool} {k : String} {fs : List String} {xs : List D} : isN b (.ins k fs xs) .non st = .ok (.bl b) st := rfl
@[simp] theorem op_isB {b p q : Bool} : isB b (.bl p) (.bl q) st = .ok (.bl (if b then !decide (p = q) else decide (p = q))) st := rfl
@[simp] theorem tru_bl {b : Bool} : truD st (.bl b) = some b := rfl
@[simp] theorem tru_non : truD st .non = some false := rfl
@[simp] theorem tru_int {i : Int} : truD st (.int i) = some (i != 0) := rfl
@[simp] theorem sq_lst {xs : List D} : seqL st (.lst xs) = some xs := rfl
@[simp] theorem sq_ext {ns : List Int} : seqL st (.ext ns) = some (ns.map .int) := rfl
@[simp] theorem sq_ref {k : Nat} : seqL st (.ref k) = (match st[k]? with
  | some (.lst xs) => some xs
  | _ => none) := rfl
@[simp] theorem sq_tup {xs : List D} : seqL st (.tup xs) = none := rfl
@[simp] theorem sx_tup {xs : List D} : seqX st (.tup xs) = some xs := rfl
@[simp] theorem sx_lst {xs : List D} : seqX st (.lst xs) = some xs := rfl
@[simp] theorem sx_ref {k : Nat} : seqX st (.ref k) = (match st[k]? with
  | some (.lst xs) => some xs
  | _ => none) := by
  unfold seqX
  rw [sq_ref]
  split
  · rename_i h
    split at h
    · cases h
      rfl
    · cases h
  · rename_i h
    split at h
    · cases h
    · rfl
@[simp] theorem st_tup {xs : List D} : seqT (.tup xs) = some xs := rfl
@[simp] theorem len_lst {xs : List D} : lenD [.lst xs] st = .ok (.int xs.length) st := rfl
@[simp] theorem len_tup {xs : List D} : lenD [.tup xs] st = .ok (.int xs.length) st := rfl
@[simp] theorem len_ref {k : Nat} : lenD [.ref k] st = (match st[k]? with
  | some (.lst xs) => .ok (.int xs.length) st
  | _ => .bad) := by
  show (match seqL st (.ref k) with
    | some xs => Res.ok (D.int xs.length) st
    | none => .bad) = _
  rw [sq_ref]
  split
  · rename_i h
    split at h
    · cases h
      rfl
    · cases h
  · rename_i h
    split at h
    · cases h
    · rfl
@[simp] theorem int_int {i : Int} : intD [.int i] st = .ok (.int i) st := rfl
@[simp] theorem int_bl {b : Bool} : intD [.bl b] st = .ok (.int (if b then 1 else 0)) st := rfl
@[simp] theorem i1_int {g : Int → D} {i : Int} : i1 g [.int i] st = .ok (g i) st := rfl
@[simp] theorem i2f_int {g : Int → Int → D} {i j : Int} : i2f g [.int i, .int j] st = .ok (g i j) st := rfl
@[simp] theorem tup_lst {xs : List D} : tupD [.lst xs] st = .ok (.tup xs) st := rfl
@[simp] theorem tup_tup {xs : List D} : tupD [.tup xs] st = .ok (.tup xs) st := rfl
@[simp] theorem tup_ref {k : Nat} : tupD [.ref k] st = (match st[k]? with
  | some (.lst xs) => .ok (.tup xs) st
  | _ => .bad) := by
  show (match seqL st (.ref k) with
    | some xs => Res.ok (D.tup xs) st
    | none => .bad) = _
  rw [sq_ref]
  split
  · rename_i h
    split at h
    · cases h
      rfl
    · cases h
  · rename_i h
    split at h
    · cases h
    · rfl
@[simp] theorem list_x {lv : Bool} : listD lv [x] st = (match seqX st x with
  | some xs => mkL lv xs st
  | none => .bad) := rfl
@[simp] theorem ix_lst {xs : List D} {i : Int} : ixD (.lst xs) (.int i) st = (match atI xs i with
  | some d => .ok d st
  | none => .bad) := rfl
@[simp] theorem ix_tup {xs : List D} {i : Int} : ixD (.tup xs) (.int i) st = (match atI xs i with
  | some d => .ok d st
  | none => .bad) := rfl
@[simp] theorem ix_ref {k : Nat} {i : Int} : ixD (.ref k) (.int i) st = (match st[k]? with
  | some (.lst xs) => (match atI xs i with
    | some d => .ok d st
    | none => .bad)
  | _ => .bad) := by
  show (match seqL st (.ref k) with
    | some xs => (match atI xs i with
      | some d => Res.ok d st
      | none => .bad)
    | none => .bad) = _
  rw [sq_ref]
  split
  · rename_i h
    split at h
    · cases h
      rfl
    · cases h
  · rename_i h
    split at h
    · cases h
    · rfl
theorem at_nat {α : Type} {xs : List α} {k : Nat} : atI xs (k : Int) = xs[k]? := by
  unfold atI ixN
  rw [if_pos (Int.natCast_nonneg k)]
  by_cases h : k < xs.length
  · rw [if_pos (by omega)]
    rfl
  · rw [if_neg (by omega), List.getElem?_eq_none (Nat.le_of_not_lt h)]
    rfl
@[simp] theorem at_0 {α : Type} {xs : List α} : atI xs 0 = xs[0]? := at_nat (k := 0)
@[simp] theorem at_1 {α : Type} {xs : List α} : atI xs 1 = xs[1]? := at_nat (k := 1)
@[simp] theorem at_2 {α : Type} {xs : List α} : atI xs 2 = xs[2]? := at_nat (k := 2)
@[simp] theorem at_3 {α : Type} {xs : List α} : atI xs 3 = xs[3]? := at_nat (k := 3)
@[simp] theorem at_4 {α : Type} {xs : List α} : atI xs 4 = xs[4]? := at_nat (k := 4)
@[simp] theorem at_5 {α : Type} {xs : List α} : atI xs 5 = xs[5]? := at_nat (k := 5)
theorem at_pos {α : Type} {xs : List α} {i : Int} (h : 0 ≤ i) : atI xs i = xs[i.toNat]? := by
  have := at_nat (xs := xs) (k := i.toNat)
  rw [Int.toNat_of_nonneg h] at this
  exact this
theorem at_last {α : Type} {xs : List α} (h : xs ≠ []) : atI xs (-1) = some (xs.getLast h) := by
  have hl : 0 < xs.length := List.length_pos_iff.mpr h
  unfold atI ixN
  rw [if_neg (by omega), if_pos (by omega)]
  show xs[(-1 + (xs.length : Int)).toNat]? = _
  rw [show (-1 + (xs.length : Int)).toNat = xs.length - 1 by omega, List.getElem?_eq_getElem (by omega), List.getLast_eq_getElem]
/-! ### index stores -/
theorem ixN_nat {n k : Nat} (h : k < n) : ixN n (k : Int) = some k := by
  unfold ixN
  rw [if_pos (Int.natCast_nonneg k), if_pos (by omega)]
  rfl
@[simp] theorem ixN_0 {n : Nat} : ixN (n + 1) 0 = some 0 := ixN_nat (k := 0) (by omega)
@[simp] theorem ixN_1 {n : Nat} : ixN (n + 2) 1 = some 1 := ixN_nat (k := 1) (by omega)
@[simp] theorem ixN_2 {n : Nat} : ixN (n + 3) 2 = some 2 := ixN_nat (k := 2) (by omega)
@[simp] theorem ixN_3 {n : Nat} : ixN (n + 4) 3 = some 3 := ixN_nat (k := 3) (by omega)
@[simp] theorem ixN_4 {n : Nat} : ixN (n + 5) 4 = some 4 := ixN_nat (k := 4) (by omega)
@[simp] theorem ixN_5 {n : Nat} : ixN (n + 6) 5 = some 5 := ixN_nat (k := 5) (by omega)
@[simp] theorem setL_ref {n : Nat} {i : Int} : setL (.ref n) (.int i) z st = (match st[n]? with
  | some (.lst xs) => (match ixN xs.length i with
    | some j => some (st.set n (.lst (xs.set j z)))
    | none => none)
  | _ => none) := rfl
@[simp] theorem live_ref {n : Nat} : liveL st (.ref n) = (match st[n]? with
  | some (.lst xs) => some (n, xs)
  | _ => none) := rfl
theorem app_ref {n : Nat} {xs : List D} (h : st[n]? = some (.lst xs)) (hz : xs.length < sizeLine) : appendD (.ref n) [y] st = .ok .non (st.set n (.lst (xs ++ [y]))) := by
  unfold appendD
  have e : liveL st (.ref n) = some (n, xs) := by rw [live_ref, h]
  rw [e]
  show (if Ok (xs.length < sizeLine) then Res.ok D.non (setO st n (xs ++ [y])) else .bad) = _
  rw [if_pos (show Ok _ from hz)]
  rfl
@[simp] theorem ins_ins {k : String} {fs : List String} {xs : List D} : insD st (.ins k fs xs) = some (k, fs, xs) := rfl
@[simp] theorem ins_ref {n : Nat} : insD st (.ref n) = (match st[n]? with
  | some (.ins k fs xs) => some (k, fs, xs)
  | _ => none) := rfl
@[simp] theorem src_tup {xs : List D} : srcD (.tup xs) st = .ok (.fz xs) st := rfl
@[simp] theorem src_lst {xs : List D} : srcD (.lst xs) st = .ok (.fz xs) st := rfl
@[simp] theorem src_ext {ns : List Int} : srcD (.ext ns) st = .ok (.fz (ns.map .int)) st := rfl
@[simp] theorem src_ref {k : Nat} : srcD (.ref k) st = (match st[k]? with
  | some (.lst xs) => .ok (.lv k xs.length) st
  | _ => .bad) := rfl
@[simp] theorem fz_rd {ds : List D} {i : Nat} {s : Sto} : (Src.fz ds).rd i s = some ds[i]? := rfl
@[simp] theorem fz_n {ds : List D} : (Src.fz ds).n = ds.length := rfl
end
/-! ### no refs -/
mutual
def pd : D → Bool
  | .tup xs => pds xs
  | .lst xs => pds xs
  | .ref _ => false
  | .ins _ _ xs => pds xs
  | .dK _ xs => pds xs
  | .dT _ xs => pds xs
  | _ => true
def pds : List D → Bool
  | [] => true
  | x :: xs => pd x && pds xs
end
def pdo : SO → Bool
  | .lst xs => pds xs
  | .ins _ _ xs => pds xs
  | .dK _ xs => pds xs
  | .dT _ xs => pds xs
mutual
theorem frz_pd {fs : Nat → Option D} {n0 : Nat} : ∀ {d : D}, pd d = true → frzD fs n0 d = some d
  | .non, _ => rfl
  | .bl _, _ => rfl
  | .int _, _ => rfl
  | .str _, _ => rfl
  | .tup xs, h => by
    have e := frzs_pd (fs := fs) (n0 := n0) (show pds xs = true from h)
    show (frzDs fs n0 xs).map D.tup = _
    rw [e] <;> rfl
  | .lst xs, h => by
    have e := frzs_pd (fs := fs) (n0 := n0) (show pds xs = true from h)
    show (frzDs fs n0 xs).map D.lst = _
    rw [e] <;> rfl
  | .ref _, h => by cases h
  | .ins k f xs, h => by
    have e := frzs_pd (fs := fs) (n0 := n0) (show pds xs = true from h)
    show (frzDs fs n0 xs).map (D.ins k f) = _
    rw [e] <;> rfl
  | .dK ks xs, h => by
    have e := frzs_pd (fs := fs) (n0 := n0) (show pds xs = true from h)
    show (frzDs fs n0 xs).map (D.dK ks) = _
    rw [e] <;> rfl
  | .dT ks xs, h => by
    have e := frzs_pd (fs := fs) (n0 := n0) (show pds xs = true from h)
    show (frzDs fs n0 xs).map (D.dT ks) = _
    rw [e] <;> rfl
  | .glo _, _ => rfl
  | .ty _, _ => rfl
  | .ext _, _ => rfl
  | .exc _ _ _, _ => rfl
theorem frzs_pd {fs : Nat → Option D} {n0 : Nat} : ∀ {ds : List D}, pds ds = true → frzDs fs n0 ds = some ds
  | [], _ => rfl
  | x :: xs, h => by
    have h2 : (pd x && pds xs) = true := h
    obtain ⟨h3, h4⟩ := Bool.and_eq_true_iff.mp h2
    show (match frzD fs n0 x, frzDs fs n0 xs with
      | some d, some ds => some (d :: ds)
      | _, _ => none) = _
    rw [frz_pd h3, frzs_pd h4]
end
theorem frzSO_pd {fs : Nat → Option D} {n0 : Nat} {o : SO} (h : pdo o = true) : frzSO fs n0 o = some o := by
  cases o with
  | lst xs =>
    show (frzDs fs n0 xs).map SO.lst = _
    rw [frzs_pd (show pds xs = true from h)] <;> rfl
  | ins k f xs =>
    show (frzDs fs n0 xs).map (SO.ins k f) = _
    rw [frzs_pd (show pds xs = true from h)] <;> rfl
  | dK ks xs =>
    show (frzDs fs n0 xs).map (SO.dK ks) = _
    rw [frzs_pd (show pds xs = true from h)] <;> rfl
  | dT ks xs =>
    show (frzDs fs n0 xs).map (SO.dT ks) = _
    rw [frzs_pd (show pds xs = true from h)] <;> rfl
theorem mrg_same {fs : Nat → Option D} {n0 : Nat} : ∀ (r ex : Sto), mrg fs n0 r (r ++ ex) = some r
  | [], _ => rfl
  | o :: r, ex => by
    show (match mrg1 fs n0 o o, mrg fs n0 r (r ++ ex) with
      | some a, some b => some (a :: b)
      | _, _ => none) = _
    rw [mrg_same r ex]
    unfold mrg1
    rw [if_pos rfl]
theorem mrg_bag {fs : Nat → Option D} {n0 : Nat} {b b' : SO} (h : pdo b' = true) (r ex : Sto) : mrg fs n0 (b :: r) (b' :: (r ++ ex)) = some (b' :: r) := by
  show (match mrg1 fs n0 b b', mrg fs n0 r (r ++ ex) with
    | some a, some b => some (a :: b)
    | _, _ => none) = _
  rw [mrg_same r ex]
  unfold mrg1
  by_cases e : b' = b
  · rw [if_pos e, e]
  · rw [if_neg e, frzSO_pd h]
/-- the bag alone changed -/
theorem fin_bag {b b' : SO} {d : D} {r ex : Sto} (hb : pdo b' = true) (hd : pd d = true) : fin (b :: r) d (b' :: (r ++ ex)) = .ok d (b' :: r) := by
  unfold fin
  rw [frz_pd hd, mrg_bag hb]
theorem fin_bag0 {b b' : SO} {d : D} {r : Sto} (hb : pdo b' = true) (hd : pd d = true) : fin (b :: r) d (b' :: r) = .ok d (b' :: r) := by
  have := fin_bag (b := b) (ex := []) (r := r) hb hd
  rw [List.append_nil] at this
  exact this
theorem fin_none {d : D} {r ex : Sto} (hd : pd d = true) : fin r d (r ++ ex) = .ok d r := by
  unfold fin
  rw [frz_pd hd, mrg_same]
theorem fin_none0 {d : D} {r : Sto} (hd : pd d = true) : fin r d r = .ok d r := by
  have := fin_none (ex := []) (r := r) hd
  rw [List.append_nil] at this
  exact this
theorem frz_new {xs : List D} {r ex : Sto} {j : Nat} (h : ex[j]? = some (.lst xs)) (hx : pds xs = true) : frzD (frzA (r ++ ex) r.length none) r.length (.ref (r.length + j)) = some (.lst xs) := by
  show (if r.length + j < r.length then some (D.ref (r.length + j)) else frzA (r ++ ex) r.length none (r.length + j - r.length)) = _
  rw [if_neg (by omega), show r.length + j - r.length = j by omega]
  show (if (none : Option Nat) = some (r.length + j) then none else ((r ++ ex)[r.length + j]?).bind (frzO (frzI (r ++ ex) r.length none 2) r.length)) = _
  rw [if_neg (by simp), List.getElem?_append_right (by omega), show r.length + j - r.length = j by omega, h]
  show (frzDs _ _ xs).map D.lst = _
  rw [frzs_pd hx] <;> rfl
/-- a list made here is handed back -/
theorem fin_new {xs : List D} {r ex : Sto} {j : Nat} (h : ex[j]? = some (.lst xs)) (hx : pds xs = true) : fin r (.ref (r.length + j)) (r ++ ex) = .ok (.lst xs) r := by
  unfold fin
  rw [frz_new h hx, mrg_same]
theorem fin_bag_new {b b' : SO} {xs : List D} {r ex : Sto} {j : Nat} (hb : pdo b' = true) (h : ex[j]? = some (.lst xs)) (hx : pds xs = true) : fin (b :: r) (.ref (r.length + 1 + j)) (b' :: (r ++ ex)) = .ok (.lst xs) (b' :: r) := by
  unfold fin
  have e := frz_new (r := b' :: r) (ex := ex) (j := j) h hx
  have e2 : frzD (frzA (b' :: (r ++ ex)) (b :: r).length none) (b :: r).length (.ref (r.length + 1 + j)) = some (.lst xs) := e
  rw [e2, mrg_bag hb]
@[simp] theorem end_rt_f {st s : Sto} {d : D} : fnEnd false st (.rt d s) = fin st d s := rfl
@[simp] theorem end_rt_t {st s : Sto} {d : D} : fnEnd true st (.rt d s) = finL st d s := rfl
@[simp] theorem end_nx {lv : Bool} {st s : Sto} {e : Env} : fnEnd lv st (.nx e s) = fin st .non s := rfl
/-! ### loops -/
/-- a loop over data: an invariant by the turn -/
theorem loop_inv {ds : List D} {g : GD} {body : MS} (P : Nat → Env → Sto → Prop) (step : ∀ (i : Nat) (d : D) (env : Env) (st : Sto), ds[i]? = some d → P i env st → ∃ e1, g d env = some e1 ∧ ∃ e2 s2, (body e1 st = .nx e2 s2 ∨ body e1 st = .ct e2 s2) ∧ P (i + 1) e2 s2) :
    ∀ (n i : Nat) (env : Env) (st : Sto), n + i = ds.length → P i env st → ∃ e2 s2, loopR (Src.fz ds).rd g body n i env st = .nx e2 s2 ∧ P ds.length e2 s2
  | 0, i, env, st, e, p => by
    have e' : i = ds.length := by omega
    subst e'
    refine ⟨env, st, ?_, p⟩
    unfold loopR
    rw [fz_rd, List.getElem?_eq_none (Nat.le_refl _)]
  | n + 1, i, env, st, e, p => by
    have hl : i < ds.length := by omega
    have hd : ds[i]? = some ds[i] := List.getElem?_eq_getElem hl
    obtain ⟨e1, hg, e2, s2, hb, p2⟩ := step i _ env st hd p
    obtain ⟨e3, s3, h3, p3⟩ := loop_inv P step n (i + 1) e2 s2 (by omega) p2
    refine ⟨e3, s3, ?_, p3⟩
    unfold loopR
    rw [fz_rd, hd]
    dsimp only
    rw [hg]
    rcases hb with hb | hb
    · dsimp only
      rw [hb]
      exact h3
    · dsimp only
      rw [hb]
      exact h3
/-- .. that may leave by return: R tells of what is returned -/
theorem loop_ret {ds : List D} {g : GD} {body : MS} (P : Nat → Env → Sto → Prop) (R : D → Sto → Prop)
    (step : ∀ (i : Nat) (d : D) (env : Env) (st : Sto), ds[i]? = some d → P i env st → ∃ e1, g d env = some e1 ∧ ((∃ e2 s2, (body e1 st = .nx e2 s2 ∨ body e1 st = .ct e2 s2) ∧ P (i + 1) e2 s2) ∨ ∃ r s2, body e1 st = .rt r s2 ∧ R r s2)) :
    ∀ (n i : Nat) (env : Env) (st : Sto), n + i = ds.length → P i env st → (∃ e2 s2, loopR (Src.fz ds).rd g body n i env st = .nx e2 s2 ∧ P ds.length e2 s2) ∨ ∃ r s2, loopR (Src.fz ds).rd g body n i env st = .rt r s2 ∧ R r s2
  | 0, i, env, st, e, p => by
    have e' : i = ds.length := by omega
    subst e'
    refine .inl ⟨env, st, ?_, p⟩
    unfold loopR
    rw [fz_rd, List.getElem?_eq_none (Nat.le_refl _)]
  | n + 1, i, env, st, e, p => by
    have hl : i < ds.length := by omega
    have hd : ds[i]? = some ds[i] := List.getElem?_eq_getElem hl
    obtain ⟨e1, hg, hs⟩ := step i _ env st hd p
    rcases hs with ⟨e2, s2, hb, p2⟩ | ⟨r, s2, hb, p2⟩
    · have ih := loop_ret P R step n (i + 1) e2 s2 (by omega) p2
      have eq : loopR (Src.fz ds).rd g body (n + 1) i env st = loopR (Src.fz ds).rd g body n (i + 1) e2 s2 := by
        conv => lhs; unfold loopR
        rw [fz_rd, hd]
        dsimp only
        rw [hg]
        rcases hb with hb | hb
        · dsimp only
          rw [hb]
        · dsimp only
          rw [hb]
      rw [eq]
      exact ih
    · refine .inr ⟨r, s2, ?_, p2⟩
      unfold loopR
      rw [fz_rd, hd]
      dsimp only
      rw [hg]
      dsimp only
      rw [hb]
/-- a comprehension over data, without tests: its values one by one -/
theorem comp_inv {ds : List D} {g : GD} {t : M Bool} {me : M D} {env : Env} (P : Nat → List D → Sto → Prop)
    (step : ∀ (i : Nat) (d : D) (acc : List D) (st : Sto), ds[i]? = some d → P i acc st → ∃ e1, g d env = some e1 ∧ ((∃ s1 y s2, t e1 st = .ok true s1 ∧ me e1 s1 = .ok y s2 ∧ acc.length < sizeLine ∧ P (i + 1) (acc ++ [y]) s2) ∨ ∃ s1, t e1 st = .ok false s1 ∧ P (i + 1) acc s1)) :
    ∀ (n i : Nat) (acc : List D) (st : Sto), n + i = ds.length → P i acc st → ∃ acc2 s2, compR (Src.fz ds).rd g t me env n i acc st = .ok acc2 s2 ∧ P ds.length acc2 s2
  | 0, i, acc, st, e, p => by
    have e' : i = ds.length := by omega
    subst e'
    refine ⟨acc, st, ?_, p⟩
    unfold compR
    rw [fz_rd, List.getElem?_eq_none (Nat.le_refl _)]
  | n + 1, i, acc, st, e, p => by
    have hl : i < ds.length := by omega
    have hd : ds[i]? = some ds[i] := List.getElem?_eq_getElem hl
    obtain ⟨e1, hg, hs⟩ := step i _ acc st hd p
    rcases hs with ⟨s1, y, s2, ht, hm, hz, p2⟩ | ⟨s1, ht, p2⟩
    · obtain ⟨a3, s3, h3, p3⟩ := comp_inv P step n (i + 1) _ s2 (by omega) p2
      refine ⟨a3, s3, ?_, p3⟩
      unfold compR
      rw [fz_rd, hd]
      dsimp only
      rw [hg]
      dsimp only
      rw [ht]
      show (if true = true then (noX (me e1 s1)).bind fun y s2 => if Ok (acc.length < sizeLine) then compR (Src.fz ds).rd g t me env n (i + 1) (acc ++ [y]) s2 else .bad else compR (Src.fz ds).rd g t me env n (i + 1) acc s1) = _
      rw [if_pos rfl, hm]
      show (if Ok (acc.length < sizeLine) then compR (Src.fz ds).rd g t me env n (i + 1) (acc ++ [y]) s2 else .bad) = _
      rw [if_pos (show Ok _ from hz)]
      exact h3
    · obtain ⟨a3, s3, h3, p3⟩ := comp_inv P step n (i + 1) _ s1 (by omega) p2
      refine ⟨a3, s3, ?_, p3⟩
      unfold compR
      rw [fz_rd, hd]
      dsimp only
      rw [hg]
      dsimp only
      rw [ht]
      show (if false = true then (noX (me e1 s1)).bind fun y s2 => if Ok (acc.length < sizeLine) then compR (Src.fz ds).rd g t me env n (i + 1) (acc ++ [y]) s2 else .bad else compR (Src.fz ds).rd g t me env n (i + 1) acc s1) = _
      rw [if_neg Bool.false_ne_true]
      exact h3
end ND
end
namespace ND
open PySem L2
theorem eq_gen {neg : Bool} {x y : D} {st : Sto} {p q : PyData} (h1 : pyD st x = some p) (h2 : pyD st y = some q) (h3 : min p.depth q.depth ≤ 60) : eqD neg x y st = .ok (.bl (if neg = true then !PyData.eqv p q else PyData.eqv p q)) st := by
  unfold eqD
  rw [h1, h2]
  show (if Ok (min p.depth q.depth ≤ 60) then Res.ok (D.bl (if neg = true then !PyData.eqv p q else PyData.eqv p q)) st else .bad) = _
  rw [if_pos (show Ok _ from h3)]
@[simp] theorem eq_int {neg : Bool} {i j : Int} {st : Sto} : eqD neg (.int i) (.int j) st = .ok (.bl (if neg then !decide (i = j) else decide (i = j))) st := by
  have e : (i == j) = decide (i = j) := by
    by_cases h : i = j
    · rw [decide_eq_true h]
      exact beq_iff_eq.mpr h
    · rw [decide_eq_false h]
      exact beq_eq_false_iff_ne.mpr h
  have e2 : PyData.eqv (.int i) (.int j) = decide (i = j) := by
    unfold PyData.eqv
    exact e
  rw [eq_gen (p := .int i) (q := .int j) rfl rfl (by unfold PyData.depth; simp), e2]
@[simp] theorem eq_bl {neg : Bool} {i j : Bool} {st : Sto} : eqD neg (.bl i) (.bl j) st = .ok (.bl (if neg then !decide (i = j) else decide (i = j))) st := by
  rw [eq_gen (p := .bool i) (q := .bool j) rfl rfl (by unfold PyData.depth; simp)]
  cases i <;> cases j <;> cases neg <;> rfl
/-! ### the bag -/
/-- the bag's state after at most k draws -/
structure BagOk (b : SO) (k : Nat) : Prop where
  ex : ∃ (cells : List Int) (p : Nat) (big seed turn left : Int), b = .lst [.lst (cells.map .int), .int p, .int big, .int seed, .int turn, .int left] ∧ (∀ c ∈ cells, 0 ≤ c) ∧ 0 ≤ big ∧ 0 ≤ seed ∧ seed < 1000000007 ∧ 0 ≤ turn ∧ turn ≤ k
theorem pds_ints : ∀ ns : List Int, pds (ns.map .int) = true
  | [] => rfl
  | x :: xs => by
    show (pd (.int x) && pds (xs.map .int)) = true
    rw [pds_ints xs] <;> rfl
theorem BagOk.pd {b : SO} {k : Nat} (h : BagOk b k) : pdo b = true := by
  obtain ⟨cells, p, big, seed, turn, left, rfl, _⟩ := h.ex
  show (ND.pd (.lst (cells.map .int)) && _) = true
  have : ND.pd (.lst (cells.map .int)) = true := pds_ints cells
  rw [this]
  rfl
theorem BagOk.mono {b : SO} {k j : Nat} (h : BagOk b k) (hj : k ≤ j) : BagOk b j := by
  obtain ⟨cells, p, big, seed, turn, left, e, h1, h2, h3, h4, h5, h6⟩ := h.ex
  exact ⟨cells, p, big, seed, turn, left, e, h1, h2, h3, h4, h5, by omega⟩
theorem log_lt {i : Int} {n : Nat} (h0 : 0 ≤ i) (h : i < 2 ^ n) (hn : 0 < n) : i.natAbs.log2 < n := by
  by_cases z : i.natAbs = 0
  · rw [z]
    exact hn
  · refine (Nat.log2_lt z).mpr ?_
    have : (i.natAbs : Int) = i := Int.natAbs_of_nonneg h0
    have h2 : ((i.natAbs : Nat) : Int) < ((2 ^ n : Nat) : Int) := by
      rw [this]
      push_cast
      exact h
    exact_mod_cast h2
theorem op_mulS {i j : Int} {st : Sto} (h1 : 0 ≤ i) (h2 : i < 2 ^ 60) (h3 : 0 ≤ j) (h4 : j < 2 ^ 60) : mulI (.int i) (.int j) st = .ok (.int (i * j)) st := op_mulI (by
  have a := log_lt h1 h2 (by decide)
  have b := log_lt h3 h4 (by decide)
  omega)
theorem op_divS {i j : Int} {st : Sto} (h1 : 0 < j) (h2 : j < 2 ^ 60) : divI (.int i) (.int j) st = .ok (.int (i / j)) st := op_divI h1 (by
  have b := log_lt (n := 60) (by omega) h2 (by decide)
  omega)
/-! ### pure comprehensions -/
theorem comp_pure {g : GD} {t : M Bool} {me : M D} {env : Env} {st : Sto} (f : D → D) (p : D → Bool) {all : List D} (h : ∀ d ∈ all, ∃ e1, g d env = some e1 ∧ t e1 st = .ok (p d) st ∧ (p d = true → me e1 st = .ok (f d) st)) :
    ∀ (n i : Nat) (acc : List D), n + i = all.length → acc.length + n ≤ sizeLine → compR (Src.fz all).rd g t me env n i acc st = .ok (acc ++ ((all.drop i).filter p).map f) st
  | 0, i, acc, e, _ => by
    have e' : i = all.length := by omega
    subst e'
    unfold compR
    rw [fz_rd, List.getElem?_eq_none (Nat.le_refl _), List.drop_length, List.filter_nil, List.map_nil, List.append_nil]
  | n + 1, i, acc, e, hz => by
    have hl : i < all.length := by omega
    have hd : all[i]? = some all[i] := List.getElem?_eq_getElem hl
    obtain ⟨e1, hg, ht, hm⟩ := h _ (List.getElem_mem hl)
    unfold compR
    rw [fz_rd, hd]
    dsimp only
    rw [hg]
    dsimp only
    rw [ht, List.drop_eq_getElem_cons hl]
    cases hp : p all[i] with
    | true =>
      rw [List.filter_cons_of_pos hp]
      show (if true = true then (noX (me e1 st)).bind fun y s2 => if Ok (acc.length < sizeLine) then compR (Src.fz all).rd g t me env n (i + 1) (acc ++ [y]) s2 else .bad else compR (Src.fz all).rd g t me env n (i + 1) acc st) = _
      rw [if_pos rfl, hm hp]
      show (if Ok (acc.length < sizeLine) then compR (Src.fz all).rd g t me env n (i + 1) (acc ++ [f all[i]]) st else .bad) = _
      rw [if_pos (show Ok (acc.length < sizeLine) from (by omega : acc.length < sizeLine)), comp_pure f p h n (i + 1) _ (by omega) (by rw [List.length_append]; show acc.length + 1 + n ≤ _; omega), List.map_cons, List.append_assoc]
      rfl
    | false =>
      rw [List.filter_cons_of_neg (by rw [hp]; exact Bool.false_ne_true)]
      show (if false = true then (noX (me e1 st)).bind fun y s2 => if Ok (acc.length < sizeLine) then compR (Src.fz all).rd g t me env n (i + 1) (acc ++ [y]) s2 else .bad else compR (Src.fz all).rd g t me env n (i + 1) acc st) = _
      rw [if_neg Bool.false_ne_true, comp_pure f p h n (i + 1) acc (by omega) (by omega)]
theorem comp_map {g : GD} {me : M D} {env : Env} {st : Sto} (f : D → D) {all : List D} (h : ∀ d ∈ all, ∃ e1, g d env = some e1 ∧ me e1 st = .ok (f d) st) (hz : all.length ≤ sizeLine) :
    compR (Src.fz all).rd g bYes me env all.length 0 [] st = .ok (all.map f) st := by
  have := comp_pure (t := bYes) (me := me) (st := st) f (fun _ => true) (all := all) (fun d hd => by
    obtain ⟨e1, h1, h2⟩ := h d hd
    exact ⟨e1, h1, rfl, fun _ => h2⟩) all.length 0 [] (by omega) (by simpa using hz)
  rw [this, List.drop_zero, List.nil_append, List.filter_eq_self.mpr (fun _ _ => rfl)]
theorem comp_filter {g : GD} {t : M Bool} {me : M D} {env : Env} {st : Sto} (f : D → D) (p : D → Bool) {all : List D} (h : ∀ d ∈ all, ∃ e1, g d env = some e1 ∧ t e1 st = .ok (p d) st ∧ (p d = true → me e1 st = .ok (f d) st)) (hz : all.length ≤ sizeLine) :
    compR (Src.fz all).rd g t me env all.length 0 [] st = .ok ((all.filter p).map f) st := by
  have := comp_pure (t := t) (me := me) (st := st) f p (all := all) h all.length 0 [] (by omega) (by simpa using hz)
  rw [this]
  simp
/-- a list handed back live -/
theorem finL_new {xs : List D} {r : Sto} (hx : pds xs = true) : finL r (.ref r.length) (r ++ [.lst xs]) = .ok (.ref r.length) (r ++ [.lst xs]) := by
  unfold finL
  dsimp only
  rw [if_neg (Nat.lt_irrefl _), List.getElem?_append_right (Nat.le_refl _), Nat.sub_self]
  show (match frzSO _ _ (.lst xs), mrg _ _ r (r ++ [SO.lst xs]) with
    | some o', some st' => Res.ok (D.ref r.length) (st' ++ [o'])
    | _, _ => .bad) = _
  rw [frzSO_pd (o := .lst xs) hx, mrg_same]
theorem range_get {lo : Int} {n i : Nat} {d : D} (h : (rangeD lo n)[i]? = some d) : d = .int (lo + i) ∧ i < n := by
  unfold rangeD at h
  rw [List.getElem?_map] at h
  by_cases hi : i < n
  · rw [List.getElem?_range hi] at h
    cases h
    exact ⟨rfl, hi⟩
  · rw [List.getElem?_eq_none (by simpa using Nat.le_of_not_lt hi)] at h
    cases h
@[simp] theorem range_len {lo : Int} {n : Nat} : (rangeD lo n).length = n := by
  unfold rangeD
  simp
theorem sorted_ints {lv : Bool} {ns : List Int} {st : Sto} (h : ns.length < 64) : sortedD lv [.lst (ns.map .int)] st = mkL lv ((sortI ns).map .int) st := by
  unfold sortedD
  simp [allInts_map, h]
theorem sort2 (a b : Int) : sortI [a, b] = if a ≤ b then [a, b] else [b, a] := by
  refine (sortI_same (ms := if a ≤ b then [a, b] else [b, a]) ?_ ?_).symm
  · split
    · exact .refl _
    · exact List.Perm.swap _ _ _
  · split
    · simp
      assumption
    · simp
      omega
@[simp] theorem get_last {r : Sto} {x : SO} : (r ++ [x])[r.length]? = some x := by
  rw [List.getElem?_append_right (Nat.le_refl _), Nat.sub_self]
  rfl
@[simp] theorem set_last {r : Sto} {x y : SO} : (r ++ [x]).set r.length y = r ++ [y] := by
  rw [List.set_append_right _ _ (Nat.le_refl _), Nat.sub_self]
  rfl
theorem app_last {b : SO} {r : Sto} {xs : List D} {y : D} (hz : xs.length < 16777216) : appendD (.ref (r.length + 1)) [y] (b :: (r ++ [.lst xs])) = .ok .non (b :: (r ++ [.lst (xs ++ [y])])) := by
  rw [app_ref (xs := xs) (by simp) (by rw [sizeLine_eq]; exact hz)]
  simp
theorem app_last0 {r : Sto} {xs : List D} {y : D} (hz : xs.length < 16777216) : appendD (.ref r.length) [y] (r ++ [.lst xs]) = .ok .non (r ++ [.lst (xs ++ [y])]) := by
  rw [app_ref (xs := xs) (by simp) (by rw [sizeLine_eq]; exact hz)]
  simp
/-- for k in range(n), n in a slot -/
theorem rng1_nat {n : Nat} {st : Sto} (h : n ≤ 100000) : rng1 (n : Int) st = .ok (.fz (rangeD 0 n)) st := by
  rw [rng1_ok (by omega) (by omega), Int.toNat_natCast]
theorem for_rng {i n : Nat} {g : GD} {body : MS} {env e2 : Env} {st s2 : Sto} (hv : env[i]? = some (some (.int n))) (hn : n ≤ 100000) (h : loopR (Src.fz (rangeD 0 n)).rd g body n 0 env st = .nx e2 s2) : sFor (iR1 (eVar i)) g body env st = .nx e2 s2 := by
  have e : iR1 (eVar i) env st = .ok (.fz (rangeD 0 n)) st := by
    rw [ev_iR1, ev_eVar, hv]
    show rng1 (n : Int) st = _
    exact rng1_nat hn
  rw [ev_sFor, e, toS_ok, fz_n, range_len]
  exact h
/-- an object's own init -/
theorem fin_obj {r : Sto} {o o' : SO} (h : pdo o' = true) : fin (r ++ [o]) .non (r ++ [o']) = .ok .non (r ++ [o']) := by
  unfold fin
  have e : mrg (frzA (r ++ [o']) (r ++ [o]).length none) (r ++ [o]).length (r ++ [o]) (r ++ [o']) = some (r ++ [o']) := by
    generalize frzA (r ++ [o']) (r ++ [o]).length none = fs
    generalize (r ++ [o]).length = n0
    induction r with
    | nil =>
      show (match mrg1 fs n0 o o', mrg fs n0 [] [] with
        | some a, some b => some (a :: b)
        | _, _ => none) = _
      unfold mrg1
      by_cases e : o' = o
      · rw [if_pos e, e]
        rfl
      · rw [if_neg e, frzSO_pd h]
        rfl
    | cons a r ih =>
      show (match mrg1 fs n0 a a, mrg fs n0 (r ++ [o]) (r ++ [o']) with
        | some a, some b => some (a :: b)
        | _, _ => none) = _
      rw [ih]
      unfold mrg1
      rw [if_pos rfl]
      rfl
  rw [e]
  rfl
/-- an instance made here is handed back -/
theorem fin_ins {r : Sto} {k : String} {fs : List String} {xs : List D} (hx : pds xs = true) : fin r (.ref r.length) (r ++ [.ins k fs xs]) = .ok (.ins k fs xs) r := by
  unfold fin
  have e : frzD (frzA (r ++ [.ins k fs xs]) r.length none) r.length (.ref r.length) = some (.ins k fs xs) := by
    show (if r.length < r.length then some (D.ref r.length) else frzA (r ++ [.ins k fs xs]) r.length none (r.length - r.length)) = _
    rw [if_neg (by omega), Nat.sub_self]
    show (if (none : Option Nat) = some (r.length + 0) then none else ((r ++ [SO.ins k fs xs])[r.length + 0]?).bind (frzO (frzI (r ++ [.ins k fs xs]) r.length none 2) r.length)) = _
    rw [if_neg (by simp), Nat.add_zero, get_last]
    show (frzDs _ _ xs).map (D.ins k fs) = _
    rw [frzs_pd hx] <;> rfl
  rw [e, mrg_same]
theorem for_fz {mi : M Src} {g : GD} {body : MS} {env e2 : Env} {st s1 s2 : Sto} {ds : List D} (h1 : mi env st = .ok (.fz ds) s1) (h2 : loopR (Src.fz ds).rd g body ds.length 0 env s1 = .nx e2 s2) : sFor mi g body env st = .nx e2 s2 := by
  rw [ev_sFor, h1, toS_ok, fz_n]
  exact h2
theorem for_fzr {mi : M Src} {g : GD} {body : MS} {env : Env} {st s1 s2 : Sto} {ds : List D} {d : D} (h1 : mi env st = .ok (.fz ds) s1) (h2 : loopR (Src.fz ds).rd g body ds.length 0 env s1 = .rt d s2) : sFor mi g body env st = .rt d s2 := by
  rw [ev_sFor, h1, toS_ok, fz_n]
  exact h2
@[simp] theorem get_two0 {r : Sto} {x y : SO} : (r ++ [x, y])[r.length]? = some x := by
  rw [List.getElem?_append_right (Nat.le_refl _), Nat.sub_self]
  rfl
@[simp] theorem get_two1 {r : Sto} {x y : SO} : (r ++ [x, y])[r.length + 1]? = some y := by
  rw [List.getElem?_append_right (by omega), show r.length + 1 - r.length = 1 by omega]
  rfl
@[simp] theorem set_two0 {r : Sto} {x y z : SO} : (r ++ [x, y]).set r.length z = r ++ [z, y] := by
  rw [List.set_append_right _ _ (Nat.le_refl _), Nat.sub_self]
  rfl
@[simp] theorem set_two1 {r : Sto} {x y z : SO} : (r ++ [x, y]).set (r.length + 1) z = r ++ [x, z] := by
  rw [List.set_append_right _ _ (by omega), show r.length + 1 - r.length = 1 by omega]
  rfl
theorem dget_T {st : Sto} {n : Nat} {ks : List (List Key)} {xs ys : List D} {k : List Key} (h : st[n]? = some (.dT ks xs)) (hk : keysOf ys = some k) : dgetO (.ref n) (.tup ys) st = some (dval ks xs k) := by
  unfold dgetO
  have e1 : asdK st (.ref n) = none := by
    show (match st[n]? with
      | some (.dK ks xs) => some (ks, xs)
      | _ => none) = none
    rw [h]
  have e2 : asdT st (.ref n) = some (ks, xs) := by
    show (match st[n]? with
      | some (.dT ks xs) => some (ks, xs)
      | _ => none) = some (ks, xs)
    rw [h]
  rw [e1, e2]
  show (match keysOf ys with
    | some k => some (dval ks xs k)
    | none => none) = _
  rw [hk]
theorem dput_T {st : Sto} {n : Nat} {ks : List (List Key)} {xs ys : List D} {k : List Key} {z : D} (h : st[n]? = some (.dT ks xs)) (hk : keysOf ys = some k) (hz : xs.length < 16777216) (nd : ks.Nodup) : dputO (.ref n) (.tup ys) z st = some (st.set n (.dT (dkeys ks k) (dputs ks xs k z))) := by
  unfold dputO
  show (match st[n]? with
    | some (.dK ks xs) => _
    | some (.dT ks xs) => _
    | _ => none) = _
  rw [h]
  show (match keysOf ys with
    | some k => if Ok (xs.length < sizeLine ∧ ks.Nodup) then some (st.set n (.dT (dkeys ks k) (dputs ks xs k z))) else none
    | none => none) = _
  rw [hk]
  exact if_pos (show Ok _ from (⟨by rw [sizeLine_eq]; exact hz, nd⟩ : xs.length < sizeLine ∧ ks.Nodup))
theorem fin_bag_tup {b b' : SO} {d : D} {r : Sto} {ex : Sto} (hb : pdo b' = true) (hd : pd d = true) : fin (b :: r) d (b' :: (r ++ ex)) = .ok d (b' :: r) := fin_bag hb hd
/-- a loop that asks each turn and leaves with False -/
theorem loop_all {ds : List D} {g : GD} {body : MS} {st : Sto} (C : Nat → Env → Prop) (q : Nat → Bool)
    (step : ∀ (i : Nat) (d : D) (env : Env), ds[i]? = some d → C i env → ∃ e1, g d env = some e1 ∧ (q i = true → ∃ e2, body e1 st = .nx e2 st ∧ C (i + 1) e2) ∧ (q i = false → body e1 st = .rt (.bl false) st)) :
    ∀ (n i : Nat) (env : Env), n + i = ds.length → C i env → ((∀ j, i ≤ j → j < ds.length → q j = true) → ∃ e2, loopR (Src.fz ds).rd g body n i env st = .nx e2 st ∧ C ds.length e2) ∧ (¬ (∀ j, i ≤ j → j < ds.length → q j = true) → loopR (Src.fz ds).rd g body n i env st = .rt (.bl false) st)
  | 0, i, env, e, p => by
    have e' : i = ds.length := by omega
    subst e'
    have e1 : loopR (Src.fz ds).rd g body 0 ds.length env st = .nx env st := by
      unfold loopR
      rw [fz_rd, List.getElem?_eq_none (Nat.le_refl _)]
    exact ⟨fun _ => ⟨env, e1, p⟩, fun h => absurd (fun j h1 h2 => absurd h2 (by omega)) h⟩
  | n + 1, i, env, e, p => by
    have hl : i < ds.length := by omega
    have hd : ds[i]? = some ds[i] := List.getElem?_eq_getElem hl
    obtain ⟨e1, hg, ht, hf⟩ := step i _ env hd p
    cases hq : q i with
    | true =>
      obtain ⟨e2, hb, p2⟩ := ht hq
      have ih := loop_all C q step n (i + 1) e2 (by omega) p2
      have eq : loopR (Src.fz ds).rd g body (n + 1) i env st = loopR (Src.fz ds).rd g body n (i + 1) e2 st := by
        conv => lhs; unfold loopR
        rw [fz_rd, hd]
        dsimp only
        rw [hg]
        dsimp only
        rw [hb]
      rw [eq]
      have iff1 : (∀ j, i ≤ j → j < ds.length → q j = true) ↔ ∀ j, i + 1 ≤ j → j < ds.length → q j = true := ⟨fun h j h1 h2 => h j (by omega) h2, fun h j h1 h2 => by
        by_cases ej : i = j
        · rw [← ej]
          exact hq
        · exact h j (by omega) h2⟩
      rw [iff1]
      exact ih
    | false =>
      have eq : loopR (Src.fz ds).rd g body (n + 1) i env st = .rt (.bl false) st := by
        unfold loopR
        rw [fz_rd, hd]
        dsimp only
        rw [hg]
        dsimp only
        rw [hf hq]
      refine ⟨fun h => ?_, fun _ => eq⟩
      rw [h i (Nat.le_refl _) hl] at hq
      cases hq
/-- .. as a Bool -/
theorem loop_alls {ds : List D} {g : GD} {body : MS} {st : Sto} {env : Env} (C : Nat → Env → Prop) (q : Nat → Bool) (h0 : C 0 env)
    (step : ∀ (i : Nat) (d : D) (env : Env), ds[i]? = some d → C i env → ∃ e1, g d env = some e1 ∧ (q i = true → ∃ e2, body e1 st = .nx e2 st ∧ C (i + 1) e2) ∧ (q i = false → body e1 st = .rt (.bl false) st)) :
    ((List.range ds.length).all q = true → ∃ e2, loopR (Src.fz ds).rd g body ds.length 0 env st = .nx e2 st ∧ C ds.length e2) ∧ ((List.range ds.length).all q = false → loopR (Src.fz ds).rd g body ds.length 0 env st = .rt (.bl false) st) := by
  obtain ⟨h1, h2⟩ := loop_all C q step ds.length 0 env (by omega) h0
  refine ⟨fun h => h1 fun j _ hj => List.all_eq_true.mp h j (List.mem_range.mpr hj), fun h => h2 fun hh => ?_⟩
  have : (List.range ds.length).all q = true := List.all_eq_true.mpr fun j hj => hh j (Nat.zero_le _) (List.mem_range.mp hj)
  rw [this] at h
  cases h
@[simp] theorem ev_gTu2 {i j : Nat} {a b : D} {env : Env} : gTu 2 (gsCons (gNm i) (gsCons (gNm j) gsNil)) (.tup [a, b]) env = some ((env.set i (some a)).set j (some b)) := rfl
theorem enum_get {xs : List D} {i : Nat} {d : D} (h : (enumD 0 xs)[i]? = some d) : ∃ x, xs[i]? = some x ∧ d = .tup [.int (i : Int), x] := by
  rw [enumD_at] at h
  obtain ⟨x, hx, rfl⟩ := Option.map_eq_some_iff.mp h
  exact ⟨x, hx, by rw [Nat.zero_add]⟩
theorem mulL_ok {xs : List D} {k : Nat} {st : Sto} (h : xs.length * k ≤ 16777216) (hk : k ≤ 1000000) : mulL false (.lst xs) (.int (k : Int)) st = .ok (.lst (List.replicate k xs).flatten) st := by
  have h2 : Ok ((k : Int) < 2 ^ 63 ∧ -(2 ^ 63) ≤ (k : Int) ∧ xs.length * (k : Int).toNat ≤ sizeLine) := ⟨by omega, by omega, by rw [sizeLine_eq, Int.toNat_natCast]; exact h⟩
  show (if Ok ((k : Int) < 2 ^ 63 ∧ -(2 ^ 63) ≤ (k : Int) ∧ xs.length * (k : Int).toNat ≤ sizeLine) then mkL false (List.replicate (k : Int).toNat xs).flatten st else .bad) = _
  rw [if_pos h2, Int.toNat_natCast]
  rfl
theorem ext_last0 {r : Sto} {xs ys : List D} (hz : xs.length + ys.length ≤ 16777216) : extendD (.ref r.length) [.lst ys] (r ++ [.lst xs]) = .ok .non (r ++ [.lst (xs ++ ys)]) := by
  have e : liveL (r ++ [.lst xs]) (.ref r.length) = some (r.length, xs) := by rw [live_ref, get_last]
  have h2 : Ok (xs.length + ys.length ≤ sizeLine) := by
    show xs.length + ys.length ≤ sizeLine
    rw [sizeLine_eq]
    exact hz
  unfold extendD
  rw [e]
  show (if Ok (xs.length + ys.length ≤ sizeLine) then Res.ok D.non (setO (r ++ [.lst xs]) r.length (xs ++ ys)) else .bad) = _
  rw [if_pos h2]
  show Res.ok D.non ((r ++ [SO.lst xs]).set r.length (.lst (xs ++ ys))) = _
  rw [set_last]
theorem cut_nat {α : Type} {xs : List α} {a c : Nat} (h1 : a ≤ xs.length) (h2 : c ≤ xs.length) : cutD xs (some (a : Int)) (some (c : Int)) = (xs.drop a).take (c - a) := by
  unfold cutD
  rw [HT.sIx_nat, HT.sIx_nat, Nat.min_eq_left h1, Nat.min_eq_left h2]
theorem cut_to {α : Type} {xs : List α} {c : Nat} (h2 : c ≤ xs.length) : cutD xs none (some (c : Int)) = xs.take c := by
  unfold cutD
  rw [HT.sIx_nat, Nat.min_eq_left h2]
  rfl
theorem cut_from {α : Type} {xs : List α} {a : Nat} : cutD xs (some (a : Int)) none = xs.drop a := by
  unfold cutD
  rw [HT.sIx_nat]
  show (xs.drop (min a xs.length)).take (xs.length - min a xs.length) = xs.drop a
  by_cases h : a ≤ xs.length
  · rw [Nat.min_eq_left h, List.take_of_length_le (by rw [List.length_drop]; exact Nat.le_refl _)]
  · rw [Nat.min_eq_right (by omega), List.drop_of_length_le (Nat.le_refl _), List.drop_of_length_le (by omega), List.take_nil]
@[simp] theorem sl_lst {xs : List D} {lo hi : Option Int} {st : Sto} : slD (.lst xs) lo hi st = .ok (.lst (cutD xs lo hi)) st := rfl
theorem intsD_ok2 {g : List Int → Int} {ns : List Int} {st : Sto} (h : 0 < ns.length) : intsD g [.lst (ns.map .int)] st = .ok (.int (g ns)) st := by
  obtain ⟨n, ms, rfl⟩ := List.exists_cons_of_length_pos h
  show (match allInts ((n :: ms).map .int) with
    | some (n :: ns) => Res.ok (D.int (g (n :: ns))) st
    | _ => .bad) = _
  rw [allInts_map]
end ND
noncomputable section
namespace ND
open PySem L2 PyProof.Rows
section
variable {P : Program} {w : World} {A : Around} {E : Value → Shared → Prop} {s : Shared}
abbrev set0 (w : World) : Obj := { cls := .type "set", dict := none, data := .set #[] 0 (.fresh 0 0 (!w.params.followText "set-order")) }
theorem set_of_listI {x : Addr} {cells : Array Value} (ks : List Int) {Q : Value → Shared → Prop} (calm : A.handled = none) (at_ : s.heap.IsList x cells) (are : IntsAre cells.toList ks) (few : ks.length + 1 < scanBound)
    (k : ∀ (hp : Heap) (tk c : Nat), SetR w hp s.heap.objs.size (fun j => decide (j ∈ ks)) c → c ≤ ks.length → (∀ b o, s.heap.get? b = some o → hp.get? b = some o) → Q (.ref s.heap.objs.size) { s with heap := hp, toks := tk }) :
    wpAny (model P w) A (call (.type "set") [.ref x]) Q E s := by
  have sz : cells.size = ks.length := by have q := IntsAre.length are; rw [Array.length_toList] at q; exact q
  obtain ⟨cc, tail, mro⟩ := F.called_set.mro
  have q1 := F.called_set.made; have q2 := F.called_set.sub
  refine wpAny_call (codeAny_of_tree (?_ : wpAny _ _ (callAny (.type "set") _) _ _ _))
  refine wpAny_pure ⟨Code.quiet_builtin _ (by decide +kernel), codeAny_builtin F.entry_type_call ?_⟩; rw [Around.under_plain (weight_type_call_type "set" [.ref x] []) rfl]
  have q3 := F.called_set.notType; have q4 := F.called_set.canCreate
  have q5 := F.typeCall_set_1 (.ref x)
  repeat (any_goals (first | assumption | wp_step))
  refine codeAny_mono (code_set_led1 (.ref x) (E := E) (Q₁ := fun v t => v = .ref s.heap.objs.size ∧ t = { s with heap := s.heap.push (set0 w) }) ⟨rfl, rfl⟩) fun r t hr => ?_
  cases r with
  | error e => exact hr
  | ok fl =>
    cases fl with
    | ret v =>
      obtain ⟨rfl, rfl⟩ := hr
      have at0 : (s.heap.push (set0 w)).get? s.heap.objs.size = some (set0 w) := Heap.get?_push_size _ rfl
      have ty0 : Shared.TypeIs { s with heap := s.heap.push (set0 w) } (.ref s.heap.objs.size) "set" := ⟨_, at0, rfl⟩
      have li := F.called_set.init.lookup; have bi := F.called_set.init.bind (.ref s.heap.objs.size)
      repeat (any_goals (first | assumption | wp_step))
      refine codeAny_mono (codeAny_call_builtin (R := wants (fun r t => r = .none ∧ ∃ hp tk c, t = { s with heap := hp, toks := tk } ∧ SetR w hp s.heap.objs.size (fun j => decide (j ∈ ks)) c ∧ c ≤ ks.length ∧ (∀ b o, s.heap.get? b = some o → hp.get? b = some o)) E) F.called_set.init.plain F.entry_set_init (check_set_init_1 ty0 ?_)) fun r2 t2 hr2 => ?_
      · obtain ⟨ob, hob, hcls, nn, hdat⟩ := at_
        obtain ⟨o1, o2, o3, o4⟩ := ob
        simp only at hcls hdat
        subst hcls; subst hdat
        have ob1 : (s.heap.push (set0 w)).get? x = some { cls := .type "list", dict := o2, data := .seq cells nn, slots := o4 } := Heap.get?_push_of_some _ hob
        have s1 := F.sub_list_set; have s2 := F.sub_list_frozenset
        have s3 : (Value.type "list" == Value.type "dict") = false := by decide
        have ob2 : (s.heap.push (set0 w)).IsList x cells := ⟨_, ob1, rfl, nn, rfl⟩
        unfold Builtin.«set.__init__» noKeywords Builtin.Frozenset.updateFrom
        generalize hpi : pyIter = pi
        wp_walk
        subst hpi
        refine wpAny_pyIter_list ob2 (wpAny_bind (wpAny_runValue ?_))
        have xlt : x < s.heap.objs.size := Heap.lt_size hob
        have c3 : A.in1.in1.in1.handled = none := by simp [calm]
        have zz : (s.heap.push (set0 w)).objs.size = s.heap.objs.size + 1 := Heap.size_push ..
        have xne : x ≠ (s.heap.push (set0 w)).objs.size := by rw [zz]; exact Nat.ne_of_lt (Nat.lt_succ_of_lt xlt)
        have sne : s.heap.objs.size ∉ [(s.heap.push (set0 w)).objs.size, x] := by
          rw [zz]
          intro z
          rcases List.mem_cons.mp z with z | z
          · exact absurd z (Nat.ne_of_lt (Nat.lt_succ_self _))
          · exact absurd (List.mem_singleton.mp z) (Nat.ne_of_gt xlt)
        have val : ∀ (i : Nat) (v : Value), cells[i]? = some v → ∃ k t, ks[i]? = some k ∧ v = .int k t := fun i v hv => by
          have hi : i < ks.length := by rw [← sz]; exact (Array.getElem?_eq_some_iff.mp hv).1
          obtain ⟨t, e⟩ := IntsAre.int_at are i v (by rw [Array.getElem?_toList]; exact hv)
          exact ⟨ks[i], t, List.getElem?_eq_getElem hi, by rw [e, List.getD_eq_getElem?_getD, List.getElem?_eq_getElem hi] <;> rfl⟩
        refine set_update_ints ((Walks.list c3 _ x xne cells).toS) s.heap.objs.size sne ks sz few val (cells.size - 0) 0 _ (by omega) (Nat.zero_le _) ⟨⟨_, Heap.get?_push_size _ rfl, rfl, rfl⟩, (ob2.push _)⟩ ?st ?go
        case st =>
          have g0 : ((s.heap.push (set0 w)).push { cls := .type "list_iterator", data := .fields #[.ref x, .int 0 0] }).get? s.heap.objs.size = some (set0 w) := Heap.get?_push_of_some _ at0
          exact ⟨0, Nat.le_refl 0, setR_new_at g0⟩
        case go =>
          intro t c' mv hc' hS'
          obtain ⟨hp, g2, d2, tk2, os2⟩ := t
          have e1 : g2 = s.gens := mv.gens; have e2 : d2 = s.drawn := mv.drawn; have e3 : os2 = s.os := mv.os
          subst e1; subst e2; subst e3
          show wpAny _ _ _ _ _ _
          refine wpAny_pure (?_ : wpAny _ _ (ret Value.none) _ _ _)
          rw [sz] at hc'
          refine wpAny_pure ⟨rfl, hp, tk2, c', rfl, hS', hc', fun b o e => ?_⟩
          have b0 : b < s.heap.objs.size := Heap.lt_size e
          have b1 : b ≠ s.heap.objs.size := Nat.ne_of_lt b0
          have b2 : b ≠ (s.heap.push (set0 w)).objs.size := by rw [zz]; exact Nat.ne_of_lt (Nat.lt_succ_of_lt b0)
          exact mv.heap b o (by simp only [List.mem_cons, List.mem_singleton, List.not_mem_nil, or_false, not_or]; exact ⟨b1, b2⟩) (Heap.get?_push_of_some _ (Heap.get?_push_of_some _ e))
      · cases r2 with
        | error e => exact hr2
        | ok f2 =>
          cases f2 with
          | ret r =>
            obtain ⟨rfl, hp, tk, c', rfl, hS', hc', hk'⟩ := hr2
            repeat (any_goals (first | assumption | wp_step))
            exact k _ _ _ hS' hc' hk'
          | _ => exact hr2.elim
    | _ => exact hr.elim
end
section
variable {X : Cx} {Wx : WX} {a b c e o : Expr} {ma mb mc me : M D} {pos p p2 pos2 q : Pos}
def rSetL (K : PySem.W.Frag) (w : World) : List V → Hp → VK → Prop := fun vs H Q => ∃ (l : Addr) (ks : List Int), vs = [.ref l] ∧ SqL K H l (ks.map V.int) ∧ ks.length < 64 ∧
  ∀ (p : Addr) (n : Nat), H p = none → n ≤ ks.length → Q (.ref p) (upd H p (SetO w p (fun j => decide (j ∈ ks)) n))
theorem cr_setL (hc : X.calm = true) : CallR X (.type "set") (rSetL X.K X.w) := by
  intro pins s σ H vs us Q I r h
  obtain ⟨l, ks, rfl, hq, hl, q1⟩ := h
  obtain ⟨its, r2, pl, hz⟩ := I.list hq
  rw [Vals.ref1 r]
  have hlen : its.toArray.size = ks.length := by rw [List.size_toArray, ← r2.length, List.length_map]
  refine set_of_listI ks (I.ok.hd hc) pl.isList (by simpa using ints_of_vals r2) (by unfold scanBound; omega) fun hp tk c hS hc' hk => ?_
  have hn : H s.heap.objs.size = none := I.hok.fresh (Nat.le_refl _)
  exact ⟨.ref _, upd H s.heap.objs.size (SetO X.w s.heap.objs.size (fun j => decide (j ∈ ks)) c), I.laid (t' := tk) (fun b u e => hk b u e) (Nat.le_refl _) (setO_new hS), rfl, q1 _ c hn hc'⟩

/-- the members, each once, ascending -/
def dedupI : List Int → List Int
  | [] => []
  | x :: xs => if x ∈ xs then dedupI xs else x :: dedupI xs
theorem dedupI_mem {k : Int} : ∀ {xs : List Int}, k ∈ dedupI xs ↔ k ∈ xs
  | [] => Iff.rfl
  | x :: xs => by
    unfold dedupI
    have ih := dedupI_mem (k := k) (xs := xs)
    split
    · rename_i h
      rw [ih, List.mem_cons]
      exact ⟨fun z => .inr z, fun z => z.elim (fun e => e ▸ h) id⟩
    · rw [List.mem_cons, List.mem_cons, ih]
theorem dedupI_nodup : ∀ xs : List Int, (dedupI xs).Nodup
  | [] => List.nodup_nil
  | x :: xs => by
    unfold dedupI
    split
    · exact dedupI_nodup xs
    · rename_i h
      exact List.nodup_cons.mpr ⟨fun z => h (dedupI_mem.mp z), dedupI_nodup xs⟩
def usortI (xs : List Int) : List Int := sortI (dedupI xs)
theorem usort_same {ns ms : List Int} (lt : ms.Pairwise (· < ·)) (mem : ∀ k, k ∈ ms ↔ k ∈ ns) : ms = usortI ns := by
  refine sortI_same ?_ (lt.imp fun h => Int.le_of_lt h)
  have nd : ms.Nodup := lt.imp fun h e => by omega
  rw [List.perm_iff_count]
  intro k
  by_cases h : k ∈ ms
  · rw [List.Nodup.count nd, List.Nodup.count (dedupI_nodup ns)]
    rw [if_pos h, if_pos (dedupI_mem.mpr ((mem k).mp h))]
  · rw [List.count_eq_zero_of_not_mem h, List.count_eq_zero_of_not_mem fun z => h ((mem k).mpr (dedupI_mem.mp z))]
def usortD (lv : Bool) : DF
  | [x], st => match seqL st x with
    | some xs => match allInts xs with
      | some ns => if Ok (ns.length < 64) then mkL lv ((usortI ns).map .int) st else .bad
      | none => .bad
    | none => .bad
  | _, _ => .bad
theorem ce_sortSet {lv : Bool} (hm : X.mg "sorted" = none) (hm2 : X.mg "set" = none) (ha : CE X Wx a ma) (hc : X.calm = true := by rfl) (hg : Gl X "sorted" := by rfl) (hg2 : Gl X "set" := by rfl)
    (h1 : starEach [a] X.env = (false, eval a X.env) :: starEach [] X.env := by rfl)
    (h2 : starEach [Expr.Call (.Name "set" p2) [a] [] q] X.env = (false, eval (.Call (.Name "set" p2) [a] [] q) X.env) :: starEach [] X.env := by rfl) :
    CE X Wx (.Call (.Name "sorted" p) [.Call (.Name "set" p2) [a] [] q] [] pos) (eC (usortD lv) (aCons ma aNil)) := by
  refine PE.mono (pe_callB (cr_sortedSet hc) hg hm boot_sorted (pa_cons (pe_callTy (cr_setL hc) hg2 hm2 boot_set (ca_cons ha ca_nil h1) (he := h1) (hpl := by rfl)) pa_nil h2) (he := h2) (hpl := by rfl)) fun σ H Q h => ?_
  obtain ⟨mu, xi, env, st, re, c, h⟩ := h
  refine tG_mono (tG_bind (R := Rels X.K) re c h) fun vs H1 ⟨mu1, xi1, ds, st1, l1, r1, c1, re1, p1⟩ => ?_
  unfold usortD at p1
  split at p1
  · rename_i x
    split at p1
    · rename_i xs hx
      split at p1
      · rename_i ns hn
        by_cases few : Ok (ns.length < 64)
        · rw [if_pos few] at p1
          obtain ⟨v, e, rx⟩ := r1.one
          obtain ⟨l, ys, ea, sq, s⟩ := seqL_ok c1 rx hx
          subst ea
          rw [allInts_ok hn] at s
          have e2 := s.ints
          subst e2
          refine ⟨l, ns, e, sq, few, fun p n hp hle => ?_⟩
          obtain ⟨le1, c2, fr2⟩ := Corr.new c1 (SetO X.w p (fun j => decide (j ∈ ns)) n) hp
          have hlt : n < 64 := Nat.lt_of_le_of_lt hle few
          refine ⟨p, _, n, rfl, upd_same, hlt, fun ms p2 lt mem len hp2 => ?_⟩
          have hp3 : (⟨upd H1 p (SetO X.w p (fun j => decide (j ∈ ns)) n), mu1, xi1⟩ : Wd).H p2 = none := hp2
          rw [usort_same (ns := ns) lt fun k => by rw [mem k, decide_eq_true_iff]]
          exact post_newL c2 (Rels.ofInts _) (Post.le p1 le1) p2 hp3
        · rw [if_neg few] at p1
          exact p1.elim
      · exact p1.elim
    · exact p1.elim
  · exact p1.elim

/-! ### xs[::-1] -/
end
section
variable {prog : Program} {w : World} {A : Around} {E : Value → Shared → Prop} {s : Shared}
theorem slice_back {sl : Addr} {v1 v2 v3 : Value} {n : Nat} {Q : Int × Int × Nat → Shared → Prop} (hs : s.heap.IsSliceOf sl v1 v2 v3) (p1 : IsPart v1 none) (p2 : IsPart v2 none) (p3 : IsPart v3 (some (-1)))
    (h : Q (((n : Nat) : Int) - 1, -1, n) s) : wpAny (model prog w) A (Builtin.Slice.sliceApplied (.ref sl) (pure (n : Int))) Q E s := by
  obtain ⟨so, so1, so2, so3⟩ := id hs
  unfold Builtin.Slice.sliceApplied Builtin.Slice.sliceFields
  refine wpAny_bind (wpAny_bind (wpAny_field so1 so3 (x := v1) rfl (wpAny_bind (wpAny_field so1 so3 (x := v2) rfl (wpAny_bind (wpAny_field so1 so3 (x := v3) rfl (wpAny_pure ?_)))))))
  refine wpAny_bind (HT.slicePart_ p3 (?_ : wpAny _ _ (if ((-1 : Int) == 0) = true then _ else _) _ _ s))
  rw [if_neg (by decide)]
  refine wpAny_bind (HT.slicePart_ p1 (wpAny_bind (HT.slicePart_ p2 (wpAny_bind (wpAny_pure ?_)))))
  show wpAny _ _ (match Builtin.Slice.sliceAdjust none none (-1) (n : Int) with | (lo, hi) => pure (lo, (-1 : Int), Builtin.Slice.slicePlaces lo hi (-1))) _ _ s
  have e1 : Builtin.Slice.sliceAdjust none none (-1) (n : Int) = ((n : Int) - 1, -1) := rfl
  have e2 : Builtin.Slice.slicePlaces ((n : Int) - 1) (-1) (-1) = n := by
    unfold Builtin.Slice.slicePlaces
    rw [if_neg (by decide), show (-(-1) : Int) = 1 from rfl, Int.ediv_one]
    split <;> omega
  rw [e1]
  show wpAny _ _ (pure ((n : Int) - 1, (-1 : Int), Builtin.Slice.slicePlaces ((n : Int) - 1) (-1) (-1))) _ _ s
  rw [e2]
  exact wpAny_pure h
theorem fm_congr {α β : Type} {f g : α → Option β} : ∀ l : List α, (∀ x ∈ l, f x = g x) → l.filterMap f = l.filterMap g
  | [], _ => rfl
  | x :: l, h => by
    rw [List.filterMap_cons, List.filterMap_cons, h x List.mem_cons_self, fm_congr l fun y hy => h y (List.mem_cons_of_mem _ hy)]
theorem pick_back (xs : Array Value) : ((List.range xs.size).filterMap fun (m : Nat) => xs[(((xs.size : Nat) : Int) - 1 + (m : Int) * -1).toNat]?).toArray = xs.toList.reverse.toArray := by
  have e : (List.range xs.size).filterMap (fun (m : Nat) => xs[(((xs.size : Nat) : Int) - 1 + (m : Int) * -1).toNat]?) = ((List.range xs.size).map fun k => xs.size - 1 - k).filterMap (xs[·]?) := by
    rw [List.filterMap_map]
    refine fm_congr _ fun m hm => ?_
    have := List.mem_range.mp hm
    have q : (((xs.size : Nat) : Int) - 1 + (m : Int) * -1).toNat = xs.size - 1 - m := by omega
    rw [q]
    rfl
  rw [e, PySem.W.krv_range, List.filterMap_reverse, PySem.W.krv_all]
theorem tuple_back {t sl : Addr} {cells : Array Value} {v1 v2 v3 : Value} {Q : Value → Shared → Prop} (ht : IsTup s.heap t cells) (hs : s.heap.IsSliceOf sl v1 v2 v3) (p1 : IsPart v1 none) (p2 : IsPart v2 none) (p3 : IsPart v3 (some (-1)))
    (h : Q (.ref s.heap.objs.size) { s with heap := s.heap.push { cls := .type "tuple", data := .seq cells.toList.reverse.toArray } }) (hz : cells.size ≤ sizeLine) : wpAny (model prog w) A (getItem (.ref t) (.ref sl)) Q E s := by
  have fits : sizeOk (.seq cells.toList.reverse.toArray) := by
    show cells.toList.reverse.toArray.size ≤ sizeLine
    rw [List.size_toArray, List.length_reverse, Array.length_toList]
    exact hz
  obtain ⟨so, so1, so2, so3⟩ := id hs
  have ts : s.TypeIs (.ref sl) "slice" := ⟨so, so1, so2⟩
  unfold getItem
  try with_reducible refine wpAny_holding ?_
  first | refine wpAny_bind (wpAny_pure ?_) | skip
  refine wpAny_bind (wpAny_sequenceKey ht.typeIs (by decide) ?_)
  refine wpAny_bind (wpAny_callSpecial?_slot (name := Str.ofString "__getitem__") ht.typeIs slot_tuple_getitem (wpAny_call_entry slot_tuple_getitem ht.typeIs entry_tuple_getitem (?_ : wpAny _ _ (Builtin.Tuple.tupleItemsOf (.ref t) >>= _) _ _ s) (args_tuple_getitem _ _)))
  refine wpAny_bind (tupleItemsOf_ ht (wpAny_bind (wpAny_typeOf ts ?_)))
  rw [if_pos (by decide)]
  refine wpAny_bind (slice_back hs p1 p2 p3 ?_)
  have no : ¬ ((((cells.size : Nat) : Int) - 1 == 0 && (-1 : Int) == 1 && cells.size == cells.size) = true) := by
    intro q
    rw [Bool.and_eq_true, Bool.and_eq_true] at q
    exact absurd q.1.2 (by decide)
  show wpAny _ _ (if (((cells.size : Nat) : Int) - 1 == 0 && (-1 : Int) == 1 && cells.size == cells.size) = true then _ else _) _ _ s
  rw [if_neg no, pick_back]
  first
    | exact wpAny_bind (m := Builtin.Tuple.tupleExact _) (wpAny_newObj_type (wpAny_pure ⟨_, rfl, wpAny_pure h⟩) fits)
    | exact wpAny_bind (m := Builtin.Tuple.tupleExact _) (wpAny_newObj_type (wpAny_bind (wpAny_pure (wpAny_pure ⟨_, rfl, wpAny_pure h⟩))) fits)
    | exact wpAny_bind (wpAny_bind (m := Builtin.Tuple.tupleExact _) (wpAny_newObj_type (wpAny_pure (wpAny_pure ⟨_, rfl, wpAny_pure h⟩)) fits))
    | exact wpAny_bind (wpAny_bind (m := Builtin.Tuple.tupleExact _) (wpAny_newObj_type (wpAny_pure ⟨_, rfl, wpAny_pure h⟩) fits))
end
section
variable {X : Cx} {Wx : WX} {a b c e o : Expr} {ma mb mc me : M D} {pos p p1 p2 p3 q : Pos} {k : Nat}
def tRevT (K : PySem.W.Frag) (te : TE) : TE := fun σ H Q => te σ H fun x H1 => ∃ a xs, x = .ref a ∧ SqT K H1 a xs ∧ ∀ p, H1 p = none → Q (.ref p) (upd H1 p (.tup xs.reverse))
def tRevX (K : PySem.W.Frag) (te : TE) : TE := fun σ H Q => te σ H fun x H1 => (∃ a xs, x = .ref a ∧ SqL K H1 a xs ∧ ∀ p, H1 p = none → Q (.ref p) (upd H1 p (.lst xs.reverse))) ∨ ∃ a xs, x = .ref a ∧ SqT K H1 a xs ∧ ∀ p, H1 p = none → Q (.ref p) (upd H1 p (.tup xs.reverse))
theorem pe_revX {te : TE} (he : PE X e te) : PE X (.Subscript e (.Slice none none (some (.UnaryOp .USub (.Constant (.int 1) k p1) p2)) p3) pos) (tRevX X.K te) := by
  refine ⟨fun pins s σ H Q I h => ?_⟩
  have step : PO X (some (.UnaryOp .USub (.Constant (.int 1) k p1) p2)) (tPart (tUn (rU fun i => .int (-i)) (tC (.int 1)))) := po_some (pe_un un_neg pe_int)
  refine Subscript_ (thn (he.run pins s σ H _ I h) fun v s1 ⟨x, H1, I1, r1, q1⟩ => wpAny_Slice (thn (po_none.run pins s1 σ H1 (fun o H2 => o = none ∧ H2 = H1) I1 ⟨rfl, rfl⟩) fun vl s2 ⟨l, H2, I2, pl, el, e2⟩ => ?_))
  subst el e2
  refine thn (po_none.run pins s2 σ H2 (fun o H3 => o = none ∧ H3 = H2) I2 ⟨rfl, rfl⟩) fun vu s3 ⟨u, H3, I3, pu, eu, e3⟩ => ?_
  subst eu e3
  refine thn (step.run pins s3 σ H3 (fun o H4 => o = some (-1) ∧ H4 = H3) I3 ⟨1, rfl, -1, rfl, rfl, rfl⟩) fun vs s4 ⟨o, H4, I4, ps, eo, e4⟩ => ?_
  subst eo e4
  have J : Inv X pins σ H4 { s4 with heap := s4.heap.push { cls := .type "slice", data := .fields #[vl, vu, vs] } } := I4.kept (t' := s4.toks) fun b ob z => Heap.get?_push_of_some _ z
  rcases q1 with ⟨a, xs, ex, hx, q⟩ | ⟨a, xs, ex, hx, q⟩
  · subst ex
    cases r1
    obtain ⟨its, r, ht, hz⟩ := J.list hx
    have hl := r.length
    refine (?_ : wpAny (model X.prog X.w) X.A (subscriptTail e (.Slice none none (some (.UnaryOp .USub (.Constant (.int 1) k p1) p2)) p3) (.ref a) (.ref s4.heap.objs.size)) (EP X pins σ Q) X.xe _)
    refine tail_any (ops := [.ref a, .ref s4.heap.objs.size]) ht.isList.typeIs (PySem.slot_list_getitem.lookup) (wpAny_getItem_list_slice ht.isList (Heap.IsSliceOf.new _ vl vu vs) pl pu ps (by decide) ?_ (by rw [List.size_toArray]; omega)) (by with_unfolding_all rfl)
    rw [PySem.W.krv_pick]
    exact ⟨.ref _, _, J.laid (t' := s4.toks) (o := .lst xs.reverse) (fun b ob z => Heap.get?_push_of_some _ z) (Nat.le_refl _) ⟨by rw [List.length_reverse]; exact hz, _, 0, r.reverse, Heap.get?_push_size _ rfl⟩, rfl, q _ (J.hok.fresh (Nat.le_refl _))⟩
  · subst ex
    cases r1
    obtain ⟨its, r, ht, hz⟩ := J.tuple hx
    have hl := r.length
    refine (?_ : wpAny (model X.prog X.w) X.A (subscriptTail e (.Slice none none (some (.UnaryOp .USub (.Constant (.int 1) k p1) p2)) p3) (.ref a) (.ref s4.heap.objs.size)) (EP X pins σ Q) X.xe _)
    refine tail_any (ops := [.ref a, .ref s4.heap.objs.size]) ht.typeIs (slot_tuple_getitem.lookup) (tuple_back ht (Heap.IsSliceOf.new _ vl vu vs) pl pu ps ?_ (by rw [List.size_toArray]; omega)) (by with_unfolding_all rfl)
    exact ⟨.ref _, _, J.laid (t' := s4.toks) (o := .tup xs.reverse) (fun b ob z => Heap.get?_push_of_some _ z) (Nat.le_refl _) ⟨by rw [List.length_reverse]; exact hz, _, r.reverse, IsTup.new _ _⟩, rfl, q _ (J.hok.fresh (Nat.le_refl _))⟩
def revD (lv : Bool) (x : D) (st : Sto) : Res D := match x with
  | .tup xs => .ok (.tup xs.reverse) st
  | _ => match seqL st x with
    | some xs => mkL lv xs.reverse st
    | none => .bad
def eRev (lv : Bool) (ma : M D) : M D := fun env st => (ma env st).bind fun x s1 => revD lv x s1
theorem ce_rev {lv : Bool} (ha : CE X Wx a ma) : CE X Wx (.Subscript a (.Slice none none (some (.UnaryOp .USub (.Constant (.int 1) k p1) p2)) p3) pos) (eRev lv ma) := PE.mono (pe_revX ha) fun σ H Q h => by
  obtain ⟨mu, xi, env, st, re, c, h⟩ := h
  refine tG_mono (tG_bind (R := Rel X.K) re c h) fun v H1 ⟨mu1, xi1, d, st1, l1, r1, c1, re1, p1⟩ => ?_
  have lst : Post X.K (Rel X.K) ⟨H1, mu1, xi1⟩ σ Wx Q (match seqL st1 d with
    | some xs => mkL lv xs.reverse st1
    | none => .bad) → ∃ a xs, v = .ref a ∧ SqL X.K H1 a xs ∧ ∀ p, H1 p = none → Q (.ref p) (upd H1 p (.lst xs.reverse)) := fun g => by
    cases hx : seqL st1 d with
    | none =>
      rw [hx] at g
      exact g.elim
    | some xs =>
      rw [hx] at g
      obtain ⟨l, ys, ea, sq, s⟩ := seqL_ok c1 r1 hx
      exact ⟨l, ys, ea, sq, fun p hp => post_newL c1 s.reverse g p hp⟩
  cases d with
  | tup xs =>
    obtain ⟨l, ys, ea, sq, s⟩ := seqT_ok (xs := xs) r1 rfl
    exact .inr ⟨l, ys, ea, sq, fun p hp => post_newT c1 s.reverse p1 p hp⟩
  | _ => exact .inl (lst p1)
end
end ND
end
namespace ND
open PySem L2
/-- what ends a loop's turn for good -/
def EndsT : SRes → Prop
  | .nx _ _ => False
  | .ct _ _ => False
  | .bk _ _ => False
  | _ => True
section
variable {rd : Nat → Sto → Option (Option D)} {ds : List D} {g : GD} {body : MS}
theorem loop_gen (P : Nat → Env → Sto → Prop) (R : SRes → Prop) (hrd : ∀ i env st, P i env st → rd i st = some ds[i]?)
    (step : ∀ (i : Nat) (d : D) (env : Env) (st : Sto), ds[i]? = some d → P i env st → ∃ e1, g d env = some e1 ∧
      ((∃ e2 s2, (body e1 st = .nx e2 s2 ∨ body e1 st = .ct e2 s2) ∧ P (i + 1) e2 s2) ∨ (∃ e2 s2, body e1 st = .bk e2 s2 ∧ R (.nx e2 s2)) ∨ (EndsT (body e1 st) ∧ R (body e1 st)))) :
    ∀ (n i : Nat) (env : Env) (st : Sto), n + i = ds.length → P i env st → (∃ e2 s2, loopR rd g body n i env st = .nx e2 s2 ∧ P ds.length e2 s2) ∨ R (loopR rd g body n i env st)
  | 0, i, env, st, e, p => by
    have e' : i = ds.length := by omega
    subst e'
    refine .inl ⟨env, st, ?_, p⟩
    unfold loopR
    rw [hrd _ _ _ p, List.getElem?_eq_none (Nat.le_refl _)]
  | n + 1, i, env, st, e, p => by
    have hl : i < ds.length := by omega
    have hd : ds[i]? = some ds[i] := List.getElem?_eq_getElem hl
    obtain ⟨e1, hg, hs⟩ := step i _ env st hd p
    have un : loopR rd g body (n + 1) i env st = (match body e1 st with
        | .nx e s => loopR rd g body n (i + 1) e s
        | .ct e s => loopR rd g body n (i + 1) e s
        | .bk e s => .nx e s
        | r => r) := by
      conv => lhs; unfold loopR
      rw [hrd _ _ _ p, hd]
      dsimp only
      rw [hg] <;> rfl
    rw [un]
    rcases hs with ⟨e2, s2, hb, p2⟩ | ⟨e2, s2, hb, r2⟩ | ⟨he, r2⟩
    · have ih := loop_gen P R hrd step n (i + 1) e2 s2 (by omega) p2
      rcases hb with hb | hb
      · rw [hb]
        exact ih
      · rw [hb]
        exact ih
    · rw [hb]
      exact .inr r2
    · refine .inr ?_
      revert he r2
      cases body e1 st with
      | nx _ _ => exact fun h => h.elim
      | ct _ _ => exact fun h => h.elim
      | bk _ _ => exact fun h => h.elim
      | rt _ _ => exact fun _ h => h
      | exc _ _ _ _ _ => exact fun _ h => h
      | bad => exact fun _ h => h
/-- a for statement -/
theorem for_gen {mi : M Src} {env : Env} {st s1 : Sto} {S : Src} (h1 : mi env st = .ok S s1) (hn : S.n = ds.length) (P : Nat → Env → Sto → Prop) (R : SRes → Prop) (h0 : P 0 env s1) (hrd : ∀ i env st, P i env st → S.rd i st = some ds[i]?)
    (step : ∀ (i : Nat) (d : D) (env : Env) (st : Sto), ds[i]? = some d → P i env st → ∃ e1, g d env = some e1 ∧
      ((∃ e2 s2, (body e1 st = .nx e2 s2 ∨ body e1 st = .ct e2 s2) ∧ P (i + 1) e2 s2) ∨ (∃ e2 s2, body e1 st = .bk e2 s2 ∧ R (.nx e2 s2)) ∨ (EndsT (body e1 st) ∧ R (body e1 st)))) :
    (∃ e2 s2, sFor mi g body env st = .nx e2 s2 ∧ P ds.length e2 s2) ∨ R (sFor mi g body env st) := by
  have e : sFor mi g body env st = loopR S.rd g body S.n 0 env s1 := by
    unfold sFor
    rw [h1]
    rfl
  rw [e, hn]
  exact loop_gen P R hrd step ds.length 0 env s1 rfl h0
/-- .. that goes through all its turns -/
theorem for_all {mi : M Src} {env : Env} {st s1 : Sto} {S : Src} (h1 : mi env st = .ok S s1) (hn : S.n = ds.length) (P : Nat → Env → Sto → Prop) (h0 : P 0 env s1) (hrd : ∀ i env st, P i env st → S.rd i st = some ds[i]?)
    (step : ∀ (i : Nat) (d : D) (env : Env) (st : Sto), ds[i]? = some d → P i env st → ∃ e1, g d env = some e1 ∧ ∃ e2 s2, (body e1 st = .nx e2 s2 ∨ body e1 st = .ct e2 s2) ∧ P (i + 1) e2 s2) :
    ∃ e2 s2, sFor mi g body env st = .nx e2 s2 ∧ P ds.length e2 s2 := by
  rcases for_gen (body := body) (g := g) h1 hn P (fun _ => False) h0 hrd (fun i d env st hd p => by
    obtain ⟨e1, hg, h⟩ := step i d env st hd p
    exact ⟨e1, hg, .inl h⟩) with h | h
  · exact h
  · exact h.elim
/-- .. over data that stands still -/
theorem for_allF {mi : M Src} {env : Env} {st s1 : Sto} (h1 : mi env st = .ok (.fz ds) s1) (P : Nat → Env → Sto → Prop) (h0 : P 0 env s1)
    (step : ∀ (i : Nat) (d : D) (env : Env) (st : Sto), ds[i]? = some d → P i env st → ∃ e1, g d env = some e1 ∧ ∃ e2 s2, (body e1 st = .nx e2 s2 ∨ body e1 st = .ct e2 s2) ∧ P (i + 1) e2 s2) :
    ∃ e2 s2, sFor mi g body env st = .nx e2 s2 ∧ P ds.length e2 s2 := for_all h1 rfl P h0 (fun _ _ _ _ => rfl) step
theorem for_genF {mi : M Src} {env : Env} {st s1 : Sto} (h1 : mi env st = .ok (.fz ds) s1) (P : Nat → Env → Sto → Prop) (R : SRes → Prop) (h0 : P 0 env s1)
    (step : ∀ (i : Nat) (d : D) (env : Env) (st : Sto), ds[i]? = some d → P i env st → ∃ e1, g d env = some e1 ∧
      ((∃ e2 s2, (body e1 st = .nx e2 s2 ∨ body e1 st = .ct e2 s2) ∧ P (i + 1) e2 s2) ∨ (∃ e2 s2, body e1 st = .bk e2 s2 ∧ R (.nx e2 s2)) ∨ (EndsT (body e1 st) ∧ R (body e1 st)))) :
    (∃ e2 s2, sFor mi g body env st = .nx e2 s2 ∧ P ds.length e2 s2) ∨ R (sFor mi g body env st) := for_gen h1 rfl P R h0 (fun _ _ _ _ => rfl) step
end
/-! ### comprehensions over any source -/
section
variable {rd : Nat → Sto → Option (Option D)} {ds : List D} {g : GD} {t : M Bool} {me : M D} {env : Env}
theorem comp_gen (P : Nat → List D → Sto → Prop) (hrd : ∀ i acc st, P i acc st → rd i st = some ds[i]?)
    (step : ∀ (i : Nat) (d : D) (acc : List D) (st : Sto), ds[i]? = some d → P i acc st → ∃ e1, g d env = some e1 ∧ ((∃ s1 y s2, t e1 st = .ok true s1 ∧ me e1 s1 = .ok y s2 ∧ acc.length < 16777216 ∧ P (i + 1) (acc ++ [y]) s2) ∨ ∃ s1, t e1 st = .ok false s1 ∧ P (i + 1) acc s1)) :
    ∀ (n i : Nat) (acc : List D) (st : Sto), n + i = ds.length → P i acc st → ∃ acc2 s2, compR rd g t me env n i acc st = .ok acc2 s2 ∧ P ds.length acc2 s2
  | 0, i, acc, st, e, p => by
    have e' : i = ds.length := by omega
    subst e'
    refine ⟨acc, st, ?_, p⟩
    unfold compR
    rw [hrd _ _ _ p, List.getElem?_eq_none (Nat.le_refl _)]
  | n + 1, i, acc, st, e, p => by
    have hl : i < ds.length := by omega
    have hd : ds[i]? = some ds[i] := List.getElem?_eq_getElem hl
    obtain ⟨e1, hg, hs⟩ := step i _ acc st hd p
    have un : compR rd g t me env (n + 1) i acc st = (noX (t e1 st)).bind fun b s1 => if b = true then (noX (me e1 s1)).bind fun y s2 => if Ok (acc.length < sizeLine) then compR rd g t me env n (i + 1) (acc ++ [y]) s2 else .bad
        else compR rd g t me env n (i + 1) acc s1 := by
      conv => lhs; unfold compR
      rw [hrd _ _ _ p, hd]
      dsimp only
      rw [hg] <;> rfl
    rw [un]
    rcases hs with ⟨s1, y, s2, ht, hm, hz, p2⟩ | ⟨s1, ht, p2⟩
    · obtain ⟨a3, s3, h3, p3⟩ := comp_gen P hrd step n (i + 1) _ s2 (by omega) p2
      refine ⟨a3, s3, ?_, p3⟩
      have hz' : Ok (acc.length < sizeLine) := show acc.length < sizeLine by rw [sizeLine_eq]; exact hz
      rw [ht]
      show (if true = true then (noX (me e1 s1)).bind fun y s2 => if Ok (acc.length < sizeLine) then compR rd g t me env n (i + 1) (acc ++ [y]) s2 else .bad else compR rd g t me env n (i + 1) acc s1) = _
      rw [if_pos rfl, hm]
      show (if Ok (acc.length < sizeLine) then compR rd g t me env n (i + 1) (acc ++ [y]) s2 else .bad) = _
      rw [if_pos hz']
      exact h3
    · obtain ⟨a3, s3, h3, p3⟩ := comp_gen P hrd step n (i + 1) _ s1 (by omega) p2
      refine ⟨a3, s3, ?_, p3⟩
      rw [ht]
      exact h3
theorem eComp_gen {lv : Bool} {mi : M Src} {vs : List Nat} {env0 : Env} {st s1 : Sto} {S : Src} (h1 : mi env0 st = .ok S s1) (hn : S.n = ds.length) (P : Nat → List D → Sto → Prop) (h0 : P 0 [] s1) (hrd : ∀ i acc st, P i acc st → S.rd i st = some ds[i]?)
    (step : ∀ (i : Nat) (d : D) (acc : List D) (st : Sto), ds[i]? = some d → P i acc st → ∃ e1, g d (wipeD env0 vs) = some e1 ∧ ((∃ s1 y s2, t e1 st = .ok true s1 ∧ me e1 s1 = .ok y s2 ∧ acc.length < 16777216 ∧ P (i + 1) (acc ++ [y]) s2) ∨ ∃ s1, t e1 st = .ok false s1 ∧ P (i + 1) acc s1)) :
    ∃ acc s2, eComp lv mi g t me vs env0 st = mkL lv acc s2 ∧ P ds.length acc s2 := by
  obtain ⟨acc, s2, e, p⟩ := comp_gen (env := wipeD env0 vs) P hrd step ds.length 0 [] s1 rfl h0
  refine ⟨acc, s2, ?_, p⟩
  unfold eComp
  rw [h1]
  show (compR S.rd g t me (wipeD env0 vs) S.n 0 [] s1).bind (fun acc s2 => mkL lv acc s2) = _
  rw [hn, e]
  rfl
/-- .. without effects: f of those that p takes -/
theorem eComp_pure {lv : Bool} {mi : M Src} {vs : List Nat} {env0 : Env} {st s1 : Sto} (h1 : mi env0 st = .ok (.fz ds) s1) (f : D → D) (p : D → Bool) (hz : ds.length ≤ 16777216)
    (h : ∀ d ∈ ds, ∃ e1, g d (wipeD env0 vs) = some e1 ∧ t e1 s1 = .ok (p d) s1 ∧ (p d = true → me e1 s1 = .ok (f d) s1)) : eComp lv mi g t me vs env0 st = mkL lv ((ds.filter p).map f) s1 := by
  have e := comp_filter (g := g) (t := t) (me := me) (env := wipeD env0 vs) (st := s1) f p (all := ds) h (by rw [sizeLine_eq]; exact hz)
  unfold eComp
  rw [h1]
  show (compR (Src.fz ds).rd g t me (wipeD env0 vs) ds.length 0 [] s1).bind (fun acc s2 => mkL lv acc s2) = _
  rw [e]
  rfl
end
/-! ### lists that are maps -/
section
variable {α : Type} {f : α → D} {xs : List α}
theorem at_map {i : Nat} (h : i < xs.length) : atI (xs.map f) (i : Int) = some (f xs[i]) := by
  rw [at_nat, List.getElem?_map, List.getElem?_eq_getElem h]
  rfl
theorem at_mapI {i : Int} (h0 : 0 ≤ i) (h : i < xs.length) : atI (xs.map f) i = some (f (xs[i.toNat]'(by omega))) := by
  rw [at_pos h0, List.getElem?_map, List.getElem?_eq_getElem (by omega)]
  rfl
theorem at_mapL (h : xs ≠ []) : atI (xs.map f) (-1) = some (f (xs.getLast h)) := by
  have h2 : xs.map f ≠ [] := fun e => h (List.map_eq_nil_iff.mp e)
  rw [at_last h2]
  have e : (xs.map f).getLast h2 = f (xs.getLast h) := List.getLast_map (f := f) (h := h2)
  rw [e]
theorem pds_map (h : ∀ x ∈ xs, pd (f x) = true) : pds (xs.map f) = true := by
  induction xs with
  | nil => rfl
  | cons x xs ih =>
    show (pd (f x) && pds (xs.map f)) = true
    rw [h x List.mem_cons_self, ih fun y hy => h y (List.mem_cons_of_mem _ hy)]
    rfl
theorem map_snoc {x : α} : (xs ++ [x]).map f = xs.map f ++ [f x] := by rw [List.map_append]; rfl
theorem cut_map {lo hi : Option Int} : cutD (xs.map f) lo hi = (cutD xs lo hi).map f := by
  unfold cutD
  rw [List.length_map, List.map_take, List.map_drop]
theorem get_map {i : Nat} {d : D} (h : (xs.map f)[i]? = some d) : ∃ x, xs[i]? = some x ∧ d = f x ∧ i < xs.length := by
  rw [List.getElem?_map] at h
  obtain ⟨x, hx, rfl⟩ := Option.map_eq_some_iff.mp h
  exact ⟨x, hx, rfl, (List.getElem?_eq_some_iff.mp hx).1⟩
end
/-- a store's list, one more -/
theorem app_at {st : Sto} {n : Nat} {xs : List D} {y : D} (h : st[n]? = some (.lst xs)) (hz : xs.length < 16777216) : appendD (.ref n) [y] st = .ok .non (st.set n (.lst (xs ++ [y]))) := app_ref h (by rw [sizeLine_eq]; exact hz)
theorem pds_app {xs ys : List D} (h1 : pds xs = true) (h2 : pds ys = true) : pds (xs ++ ys) = true := by
  induction xs with
  | nil => exact h2
  | cons x xs ih =>
    have h3 : (pd x && pds xs) = true := h1
    rw [Bool.and_eq_true] at h3
    show (pd x && pds (xs ++ ys)) = true
    rw [h3.1, ih h3.2]
    rfl
end ND
namespace ND
open PySem L2 PyProof.Rows PySem.W
section
variable {prog : Program} {w : World} {M : Model} {A : Around} {E : Value → Shared → Prop} {s : Shared} {K : Frag} {x y C f g : Addr} {ox oy : Obj} {od od2 : Option Obj} {nm : String}
abbrev Given (Q : Value → Shared → Prop) : Option Value → Shared → Prop := fun r s' => ∃ v, r = some v ∧ Q v s'
theorem bin1_same {Q : Value → Shared → Prop} (X : K.In s.heap) (I : PySem.W.InstAt s.heap x ox C od) (I2 : PySem.W.InstAt s.heap y oy C od2) (hc : selfFirst K C = true)
    (hs : findIn K (.ref C) (PySem.dunder nm) = some (some (.ref f))) (hf : isFn K (.ref f) = true) (h : wpAny M A (call (.ref f) [.ref x, .ref y]) (PySem.W.CmpBack Q) E s) : wpAny M A (binaryOp1 nm (.ref x) (.ref y)) (Given Q) E s := by
  obtain ⟨cd, rest, hcd, hm⟩ := ksp_first hc
  have one := ksp_try X I hs hf h
  obtain ⟨hh, gg, d, tt, os⟩ := s
  have L1 : Looks M hh (typeOf (.ref x)) (.ref C) := I.type
  have L2 : Looks M hh (typeOf (.ref y)) (.ref C) := I2.type
  have L3 : Looks M hh (fillsNumberSlot (.ref C) nm) true := fills_K X hcd hm hs
  unfold binaryOp1
  refine wpAny_bind (L1.at (wpAny_bind (L2.at (wpAny_bind (L3.at ?_)))))
  simp only [beq_self_eq_true, if_true]
  ksp_lk
  refine wpAny_mono one (fun r s' hr' => ?_) fun _ _ e => e
  obtain ⟨v, rfl, hq⟩ := hr'
  ksp_lk
  exact ⟨_, rfl, hq⟩
theorem bin1_left {b : Value} {T : String} {fo ro rc : Option Value} {Q : Value → Shared → Prop} (X : K.In s.heap) (I : PySem.W.InstAt s.heap x ox C od) (hb : typeOf b = pure (.type T)) (hc : selfFirst K C = true)
    (hs : findIn K (.ref C) (PySem.dunder nm) = some (some (.ref f))) (hf : isFn K (.ref f) = true) (hr : findIn K (.ref C) (dunderR nm) = some rc) (hp : rc = none ∨ ∃ g : Addr, rc = some (.ref g))
    (h1 : findIn K (.type T) (PySem.dunder nm) = some fo) (h2 : findIn K (.type T) (dunderR nm) = some ro) (hsub : subIn K (.type T) (.ref C) = some false)
    (h : wpAny M A (call (.ref f) [.ref x, b]) (PySem.W.CmpBack Q) E s) : wpAny M A (binaryOp1 nm (.ref x) b) (Given Q) E s := by
  obtain ⟨cd, rest, hcd, hm⟩ := ksp_first hc
  have one := ksp_try X I hs hf h
  obtain ⟨hh, gg, d, tt, os⟩ := s
  have L1 : Looks M hh (typeOf (.ref x)) (.ref C) := I.type
  have L2 : Looks M hh (typeOf b) (.type T) := Looks.of_pure hb
  have L3 : Looks M hh (fillsNumberSlot (.ref C) nm) true := fills_K X hcd hm hs
  have L4 : Looks M hh (fillsNumberSlot (.type T) nm) ((fo.isSome && !isSeqSlot fo) || (ro.isSome && !isSeqSlot ro)) := ksp_fillsT X h1 h2
  have L5 : Looks M hh (isSubtype (.type T) (.ref C)) false := looks_subIn X hsub
  have L6 : Looks M hh (numberSlotInPython (.ref C) nm) true := ksp_inPy X hs hr hp
  have L7 : Looks M hh (numberSlotInPython (.type T) nm) false := Looks.of_pure rfl
  have L8 : Looks M hh (typeLookup (.type T) (dunderR nm)) ro := looks_findIn X h2
  generalize ((fo.isSome && !isSeqSlot fo) || (ro.isSome && !isSeqSlot ro)) = right at L4
  have hne : (Value.ref C == Value.type T) = false := Bool.eq_false_iff.mpr fun q => by cases beq_iff_eq.mp q
  unfold binaryOp1
  refine wpAny_bind (L1.at (wpAny_bind (L2.at (wpAny_bind (L3.at ?_)))))
  simp only [hne, Bool.false_eq_true, if_false]
  cases right with
  | false =>
    ksp_lk
    refine wpAny_mono one (fun r s' hr' => ?_) fun _ _ e => e
    obtain ⟨v, rfl, hq⟩ := hr'
    ksp_lk
    exact ⟨_, rfl, hq⟩
  | true =>
    ksp_lk
    refine wpAny_mono one (fun r s' hr' => ?_) fun _ _ e => e
    obtain ⟨v, rfl, hq⟩ := hr'
    ksp_lk
    exact ⟨_, rfl, hq⟩
/-- T's own method declines, then C's reflected one -/
theorem bin1_right {b : Value} {T : String} {Q : Value → Shared → Prop} (X : K.In s.heap) (I : PySem.W.InstAt s.heap y oy C od) (hb : ∀ s' : Shared, s'.TypeIs b T) (hbt : typeOf b = pure (.type T)) (hc : selfFirst K C = true)
    (hs : findIn K (.ref C) (PySem.dunder nm) = some (some (.ref g))) (hr : findIn K (.ref C) (dunderR nm) = some (some (.ref f))) (hf : isFn K (.ref f) = true)
    (fT : fillsNumberSlot (.type T) nm = pure true) (hsub : subIn K (.ref C) (.type T) = some false) {id : String} (sl : Slot T (PySem.dunder nm) id)
    (dec : ∀ R : Value → Shared → Prop, R .notImplemented s → wpAny M A (call (.builtin id) [b, .ref y]) R E s)
    (h : wpAny M A (call (.ref f) [.ref y, b]) (PySem.W.CmpBack Q) E s) : wpAny M A (binaryOp1 nm b (.ref y)) (Given Q) E s := by
  obtain ⟨cd, rest, hcd, hm⟩ := ksp_first hc
  have one := ksp_try X I hr hf h
  have no : wpAny M A (tryMethod b (PySem.dunder nm) (.ref y)) (fun r s' => r = none ∧ s' = s) E s := wpAny_tryMethod_declines (hb s) sl (dec _ ⟨rfl, rfl, rfl⟩)
  obtain ⟨hh, gg, d, tt, os⟩ := s
  have L1 : Looks M hh (typeOf b) (.type T) := Looks.of_pure hbt
  have L2 : Looks M hh (typeOf (.ref y)) (.ref C) := I.type
  have L3 : Looks M hh (fillsNumberSlot (.type T) nm) true := Looks.of_pure fT
  have L4 : Looks M hh (fillsNumberSlot (.ref C) nm) true := fills_K X hcd hm hs
  have L5 : Looks M hh (isSubtype (.ref C) (.type T)) false := looks_subIn X hsub
  have L7 : Looks M hh (numberSlotInPython (.type T) nm) false := Looks.of_pure rfl
  have hne : (Value.type T == Value.ref C) = false := Bool.eq_false_iff.mpr fun q => by cases beq_iff_eq.mp q
  unfold binaryOp1
  refine wpAny_bind (L1.at (wpAny_bind (L2.at (wpAny_bind (L3.at ?_)))))
  simp only [hne, Bool.false_eq_true, if_false]
  ksp_lk
  refine wpAny_mono no (fun r s' hr' => ?_) fun _ _ e => e
  obtain ⟨rfl, rfl⟩ := hr'
  ksp_lk
  refine wpAny_mono one (fun r s' hr' => ?_) fun _ _ e => e
  obtain ⟨v, rfl, hq⟩ := hr'
  ksp_lk
  exact ⟨_, rfl, hq⟩
theorem bin_of1 {op : Operator} {a b : Value} {Q : Value → Shared → Prop} (h : wpAny M A (binaryOp1 op.info.2 a b) (Given Q) E s) : wpAny M A (binaryOp op a b) Q E s := by
  rcases hi : op.info with ⟨sym, nm'⟩
  rw [hi] at h
  simp only [binaryOp, hi]
  refine wpAny_holding (wpAny_bind (wpAny_mono h (fun r s' hr => ?_) fun _ _ e => e))
  obtain ⟨v, rfl, q⟩ := hr
  exact wpAny_pure q
/-- no in-place method: the class's order is itself and object -/
def plainI (K : Frag) (C : Addr) (nm : String) : Bool := (match clsIn K C with | some cd => cd.mro == [.ref C, .type "object"] | none => false) && (decide (findIn K (.ref C) (dunderI nm) = some none) && decide (findIn K (.type "object") (dunderI nm) = some none))
theorem inpl_of1 {op : Operator} {b : Value} {Q : Value → Shared → Prop} (X : K.In s.heap) (I : PySem.W.InstAt s.heap x ox C od) (hp : plainI K C op.info.2 = true) (h : wpAny M A (binaryOp1 op.info.2 (.ref x) b) (Given Q) E s) : wpAny M A (inplaceOp op (.ref x) b) Q E s := by
  unfold plainI at hp
  rw [Bool.and_eq_true, Bool.and_eq_true] at hp
  obtain ⟨h0, h1, h2⟩ := hp
  have h1 := of_decide_eq_true h1
  have h2 := of_decide_eq_true h2
  cases hcd : clsIn K C with
  | none =>
    rw [hcd] at h0
    cases h0
  | some cd =>
    rw [hcd] at h0
    have hm : cd.mro = [.ref C, .type "object"] := eq_of_beq h0
    have Lm : Looks M s.heap (mroOf (.ref C)) cd.mro := (looks_clsIn X hcd).andThen (f := fun cd => pure cd.mro) .now
    obtain ⟨hh, gg, d, tt, os⟩ := s
    have L1 : Looks M hh (typeOf (.ref x)) (.ref C) := I.type
    have L2 : Looks M hh (typeLookup (.ref C) (dunderI op.info.2)) none := looks_findIn X h1
    have L3 : Looks M hh (typeLookup (.type "object") (dunderI op.info.2)) none := looks_findIn X h2
    have L4 : Looks M hh (fillsInplaceSlot (.ref C) op.info.2 (op == .Add)) false := by
      intro A' Q' E' s' k q
      have Lm' := Lm.keeps k
      obtain ⟨h3, g3, d3, t3, o3⟩ := s'
      have L2' := L2.keeps k
      have L3' := L3.keeps k
      unfold fillsInplaceSlot
      refine wpAny_bind (Lm'.at ?_)
      rw [hm, List.anyM_cons, List.anyM_cons]
      repeat lk
      exact q
    unfold inplaceOp
    refine wpAny_holding (wpAny_bind (L1.at (wpAny_bind (L4.at ?_))))
    simp only [Bool.false_eq_true, if_false]
    refine wpAny_bind (wpAny_mono h (fun r s' hr => ?_) fun _ _ e => e)
    obtain ⟨v, rfl, q⟩ := hr
    exact wpAny_pure q
theorem neg_own {Q : Value → Shared → Prop} (X : K.In s.heap) (I : PySem.W.InstAt s.heap x ox C od) (hs : findIn K (.ref C) "__neg__" = some (some (.ref f))) (hf : isFn K (.ref f) = true) (h : wpAny M A (call (.ref f) [.ref x]) Q E s) : wpAny M A (unaryOp .USub (.ref x)) Q E s := by
  unfold unaryOp
  exact wpAny_holding (wpAny_bind (special_fn X I hs (beq_iff_eq.mp hf) (wpAny_mono h (fun _ _ z => wpAny_pure z) fun _ _ z => z)))
end
section
variable {prog : Program} {w : World} {A : Around} {E : Value → Shared → Prop} {s : Shared} {y C dx : Addr} {od : Option Obj} {i : Int} {t : Tok}
theorem not_int {R : Option Int → Shared → Prop} (I : PySem.W.InstAt s.heap y (instObj C dx) C od) (h : R none s) : wpAny (model prog w) A (asInt? (.ref y)) R E s := by
  unfold asInt?
  exact wpAny_bind (wpAny_load I.at_ (wpAny_pure h))
theorem dec_body {R : Value → Shared → Prop} {name : String} {f : Int → Int → Sem Fin} (I : PySem.W.InstAt s.heap y (instObj C dx) C od) (h : R .notImplemented s) (hs : slotArgs name 1 ⟨[.int i t, .ref y], []⟩ = pure (Value.int i t, [Value.ref y])) :
    wpAny (model prog w) A (Builtin.Int.intBinary name f false ⟨[.int i t, .ref y], []⟩) (fun fin s' => ∃ v, fin = .done (.ret v) ∧ R v s') E s := by
  unfold Builtin.Int.intBinary
  refine wpAny_bind (wpAny_of_eq hs ?_)
  unfold Builtin.Int.intOfSelf
  refine wpAny_bind (wpAny_bind (wpAny_pure (wpAny_pure ?_)))
  refine wpAny_bind (not_int I ?_)
  exact wpAny_bind (wpAny_rule (wpAny_pure ⟨_, rfl, h⟩))
theorem dec_add {R : Value → Shared → Prop} (I : PySem.W.InstAt s.heap y (instObj C dx) C od) (h : R .notImplemented s) : wpAny (model prog w) A (call (.builtin "int.__add__") [.int i t, .ref y]) R E s :=
  wpAny_call_entry PySem.F.slot_int_add (typeIs_int s i t) PySem.F.entry_int_add (dec_body I h rfl) (PySem.F.args_int_add_2 _ _)
theorem dec_sub {R : Value → Shared → Prop} (I : PySem.W.InstAt s.heap y (instObj C dx) C od) (h : R .notImplemented s) : wpAny (model prog w) A (call (.builtin "int.__sub__") [.int i t, .ref y]) R E s :=
  wpAny_call_entry PySem.F.slot_int_sub (typeIs_int s i t) PySem.F.entry_int_sub (dec_body I h rfl) (PySem.F.args_int_sub_2 _ _)
theorem dec_mul {R : Value → Shared → Prop} (I : PySem.W.InstAt s.heap y (instObj C dx) C od) (h : R .notImplemented s) : wpAny (model prog w) A (call (.builtin "int.__mul__") [.int i t, .ref y]) R E s :=
  wpAny_call_entry PySem.F.slot_int_mul (typeIs_int s i t) PySem.F.entry_int_mul (dec_body I h rfl) (PySem.F.args_int_mul_2 _ _)
end
/-! ### by data -/
noncomputable section
/-- what is known of a class's left operator where an int stands on the right -/
def lfB (K : Frag) (C : Addr) (nm : String) : Bool := (match findIn K (.ref C) (dunderR nm) with
  | some none => true
  | some (some (.ref _)) => true
  | _ => false) && ((findIn K (.type "int") (PySem.dunder nm)).isSome && ((findIn K (.type "int") (dunderR nm)).isSome && decide (subIn K (.type "int") (.ref C) = some false)))
def LtOk (X : Cx) (op : Operator) (bt : BT) : Prop := ∀ k F, bfind bt k = some F → ∃ lv, Room lv X.A ∧ BinD X.prog X.w X.K X.mg X.base lv k op F ∧ lfB X.K (gaS X.K k) op.info.2 = true
theorem LtOk.nil {X : Cx} {op : Operator} : LtOk X op [] := fun k F h => by cases h
theorem LtOk.cons {X : Cx} {op : Operator} {lv : Nat} {k : String} {F : DF} {bt : BT} (hr : Room lv X.A) (h : BinD X.prog X.w X.K X.mg X.base lv k op F) (l : lfB X.K (gaS X.K k) op.info.2 = true) (t : LtOk X op bt) : LtOk X op ((k, F) :: bt) := fun k' F' h' => by
  unfold bfind at h'
  split at h'
  · rename_i e
    cases h'
    rw [← e]
    exact ⟨lv, hr, h, l⟩
  · exact t k' F' h'
def DecInt (op : Operator) : Prop := fillsNumberSlot (.type "int") op.info.2 = pure true ∧ ∃ id, Slot "int" (PySem.dunder op.info.2) id ∧ ∀ {prog : Program} {w : World} {A : Around} {E : Value → Shared → Prop} {s : Shared} {y C dx : Addr} {od : Option Obj} {i : Int} {t : Tok} {R : Value → Shared → Prop},
  PySem.W.InstAt s.heap y (instObj C dx) C od → R .notImplemented s → wpAny (model prog w) A (call (.builtin id) [.int i t, .ref y]) R E s
theorem decI_add : DecInt .Add := ⟨PySem.F.fills_int_add, _, PySem.F.slot_int_add, fun I h => dec_add I h⟩
theorem decI_sub : DecInt .Sub := ⟨PySem.F.fills_int_sub, _, PySem.F.slot_int_sub, fun I h => dec_sub I h⟩
theorem decI_mul : DecInt .Mult := ⟨PySem.F.fills_int_mul, _, PySem.F.slot_int_mul, fun I h => dec_mul I h⟩
structure RgtD (P : Program) (w : World) (K : PySem.W.Frag) (mg : Str → Option Value) (base : Heap) (lv : Nat) (k : String) (op : Operator) (F : DF) : Prop where
  first : selfFirst K (gaS K k) = true
  ex0 : ∃ g, findIn K (.ref (gaS K k)) (dnd op) = some (some (.ref g))
  ex : ∃ f, findIn K (.ref (gaS K k)) (dunderR op.info.2) = some (some (.ref f)) ∧ isFn K (.ref f) = true ∧ FnD P w K mg base lv f F
  sub : subIn K (.ref (gaS K k)) (.type "int") = some false
def RtOk (X : Cx) (op : Operator) (bt : BT) : Prop := ∀ k F, bfind bt k = some F → DecInt op ∧ ∃ lv, Room lv X.A ∧ RgtD X.prog X.w X.K X.mg X.base lv k op F
theorem RtOk.nil {X : Cx} {op : Operator} : RtOk X op [] := fun k F h => by cases h
theorem RtOk.cons {X : Cx} {op : Operator} {lv : Nat} {k : String} {F : DF} {bt : BT} (hd : DecInt op) (hr : Room lv X.A) (h : RgtD X.prog X.w X.K X.mg X.base lv k op F) (t : RtOk X op bt) : RtOk X op ((k, F) :: bt) := fun k' F' h' => by
  unfold bfind at h'
  split at h'
  · rename_i e
    cases h'
    rw [← e]
    exact ⟨hd, lv, hr, h⟩
  · exact t k' F' h'
section
variable {X : Cx} {Wx : WX}
/-- an operator: of own classes by the tables, else as g says -/
def ownD (lt rt : BT) (g : D2) : D2 := fun x y st => match insD st x with
  | some (k, _, _) => (match insD st y with
    | some (k', _, _) => if k = k' then (match bfind lt k with
      | some F => F [x, y] st
      | none => .bad) else .bad
    | none => if isInt y = true then (match bfind lt k with
      | some F => F [x, y] st
      | none => .bad) else .bad)
  | none => (match insD st y with
    | some (k', _, _) => if isInt x = true then (match bfind rt k' with
      | some F => F [y, x] st
      | none => .bad) else .bad
    | none => g x y st)
/-- what the road of one operator must give -/
def Road1 (X : Cx) (op : Operator) (f : Value → Value → Sem Value) : Prop := ∀ (A : Around) (E : Value → Shared → Prop) (s : Shared) (x C dx : Addr) (od : Option Obj) (k : String) (b : Value) (Q : Value → Shared → Prop), C = gaS X.K k → X.K.In s.heap → PySem.W.InstAt s.heap x (instObj C dx) C od →
  wpAny (model X.prog X.w) A (binaryOp1 op.info.2 (.ref x) b) (Given Q) E s → wpAny (model X.prog X.w) A (f (.ref x) b) Q E s
theorem isInt_inv {x : D} (h : isInt x = true) : ∃ i, x = .int i := by
  cases x with
  | int i => exact ⟨i, rfl⟩
  | _ => cases h
theorem own_left_ok {op : Operator} {f : Value → Value → Sem Value} {lt : BT} (hl : LtOk X op lt) (tk : Takes X Wx)
    (road : ∀ (k : String) (F : DF), bfind lt k = some F → ∀ (A : Around) (E : Value → Shared → Prop) (s : Shared) (x dx : Addr) (od : Option Obj) (b : Value) (Q : Value → Shared → Prop), X.K.In s.heap → PySem.W.InstAt s.heap x (instObj (gaS X.K k) dx) (gaS X.K k) od →
      wpAny (model X.prog X.w) A (binaryOp1 op.info.2 (.ref x) b) (Given Q) E s → wpAny (model X.prog X.w) A (f (.ref x) b) Q E s)
    {pins : List (Addr × Obj)} {s : Shared} {σ : L2.St} {w : Wd} {st : Sto} {x y : D} {vx vy : V} {v u : Value} {Q : VK} (I : Inv X pins σ w.H s) (c : Corr X.K w st) (rx : Rel X.K w x vx) (ry : Rel X.K w y vy) (rv : L2.RelV vx v) (ru : L2.RelV vy u)
    {k : String} {fs : List String} {xs : List D} (ek : insD st x = some (k, fs, xs)) {F : DF} (eF : bfind lt k = some F) (hy : (∃ fs' xs', insD st y = some (k, fs', xs')) ∨ isInt y = true)
    (h : Post X.K (Rel X.K) w σ Wx Q (F [x, y] st)) : wpAny (model X.prog X.w) X.A (f v u) (EP X pins σ Q) X.xe s := by
  obtain ⟨a1, dx1, gs1, ea1, q1, _, _⟩ := insD_ok c rx ek
  subst ea1
  cases rv
  obtain ⟨lv, hr, B, l⟩ := hl k F eF
  obtain ⟨fn, hs, hf, G⟩ := B.ex
  obtain ⟨od1, J1⟩ := inst_of I q1
  refine road k F eF X.A X.xe s a1 dx1 _ u _ I.kIn J1 ?_
  rcases hy with ⟨fs', xs', ek'⟩ | hi
  · obtain ⟨a2, dx2, gs2, ea2, q2, _, _⟩ := insD_ok c ry ek'
    subst ea2
    cases ru
    obtain ⟨od2, J2⟩ := inst_of I q2
    refine bin1_same I.kIn J1 J2 B.first hs hf ?_
    exact wpAny_mono (G.run (w := w) (ds := [x, y]) (vs := [.ref a1, .ref a2]) (us := [.ref a1, .ref a2]) hr tk I c (.cons rx (.cons ry .nil)) (.cons rfl (.cons rfl .nil)) h) (fun r s' q => ep_back q) fun _ _ e => e
  · obtain ⟨i, rfl⟩ := isInt_inv hi
    have ry' : vy = .int i := by
      unfold Rel at ry
      exact ry
    subst ry'
    obtain ⟨t, rfl⟩ := ru
    unfold lfB at l
    rw [Bool.and_eq_true, Bool.and_eq_true, Bool.and_eq_true] at l
    obtain ⟨l0, l1, l2, l3⟩ := l
    obtain ⟨fo, h1⟩ := Option.isSome_iff_exists.mp l1
    obtain ⟨ro, h2⟩ := Option.isSome_iff_exists.mp l2
    have hsub := of_decide_eq_true l3
    have hrc : ∃ rc, findIn X.K (.ref (gaS X.K k)) (dunderR op.info.2) = some rc ∧ (rc = none ∨ ∃ g : Addr, rc = some (.ref g)) := by
      split at l0
      · rename_i e
        exact ⟨_, e, .inl rfl⟩
      · rename_i g e
        exact ⟨_, e, .inr ⟨g, rfl⟩⟩
      · cases l0
    obtain ⟨rc, hrc1, hrc2⟩ := hrc
    refine bin1_left I.kIn J1 rfl B.first hs hf hrc1 hrc2 h1 h2 hsub ?_
    exact wpAny_mono (G.run (w := w) (ds := [x, .int i]) (vs := [.ref a1, .int i]) (us := [.ref a1, .int i t]) hr tk I c (.cons rx (.cons ry .nil)) (.cons rfl (.cons ⟨t, rfl⟩ .nil)) h) (fun r s' q => ep_back q) fun _ _ e => e
theorem o_own {op : Operator} {lt rt : BT} {g : D2} (hl : LtOk X op lt) (hr : RtOk X op rt) (hg : OpD X Wx (binaryOp op) g) (tk : Takes X Wx) : OpD X Wx (binaryOp op) (ownD lt rt g) := by
  intro pins s σ w st x y vx vy v u Q I c rx ry rv ru h
  unfold ownD at h
  split at h
  · rename_i k f1 x1 e1
    split at h
    · rename_i k' f2 x2 e2
      split at h
      · rename_i ek
        subst ek
        split at h
        · rename_i F eF
          exact own_left_ok hl tk (fun k F _ A E s x dx od b Q _ _ z => bin_of1 z) I c rx ry rv ru e1 eF (.inl ⟨f2, x2, e2⟩) h
        · exact h.elim
      · exact h.elim
    · split at h
      · rename_i hi
        split at h
        · rename_i F eF
          exact own_left_ok hl tk (fun k F _ A E s x dx od b Q _ _ z => bin_of1 z) I c rx ry rv ru e1 eF (.inr hi) h
        · exact h.elim
      · exact h.elim
  · split at h
    · rename_i k' f2 x2 e2
      split at h
      · rename_i hi
        split at h
        · rename_i F eF
          obtain ⟨i, rfl⟩ := isInt_inv hi
          obtain ⟨⟨fT, id, sl, dec⟩, lv, hrm, B⟩ := hr k' F eF
          obtain ⟨a2, dx2, gs2, ea2, q2, _, _⟩ := insD_ok c ry e2
          subst ea2
          have rx' : vx = .int i := by
            unfold Rel at rx
            exact rx
          subst rx'
          cases ru
          obtain ⟨t, rfl⟩ := rv
          obtain ⟨od2, J2⟩ := inst_of I q2
          obtain ⟨g0, hs⟩ := B.ex0
          obtain ⟨fn, hrr, hf, G⟩ := B.ex
          refine bin_of1 (bin1_right I.kIn J2 (fun s' => typeIs_int s' i t) rfl B.first hs hrr hf fT B.sub sl (fun R hR => dec J2 hR) ?_)
          exact wpAny_mono (G.run (w := w) (ds := [y, .int i]) (vs := [.ref a2, .int i]) (us := [.ref a2, .int i t]) hrm tk I c (.cons ry (.cons rx .nil)) (.cons rfl (.cons ⟨t, rfl⟩ .nil)) h) (fun r s' q => ep_back q) fun _ _ e => e
        · exact h.elim
      · exact h.elim
    · exact hg pins s σ w st x y vx vy v u Q I c rx ry rv ru h
/-- in place, where the class has no in-place method -/
theorem o_iown {op : Operator} {lt : BT} {g : D2} (hl : LtOk X op lt) (hp : ∀ k F, bfind lt k = some F → plainI X.K (gaS X.K k) op.info.2 = true) (hg : OpD X Wx (inplaceOp op) g) (tk : Takes X Wx) : OpD X Wx (inplaceOp op) (ownD lt [] g) := by
  intro pins s σ w st x y vx vy v u Q I c rx ry rv ru h
  unfold ownD at h
  split at h
  · rename_i k f1 x1 e1
    split at h
    · rename_i k' f2 x2 e2
      split at h
      · rename_i ek
        subst ek
        split at h
        · rename_i F eF
          exact own_left_ok hl tk (fun k F hk A E s x dx od b Q X I z => inpl_of1 X I (hp k F hk) z) I c rx ry rv ru e1 eF (.inl ⟨f2, x2, e2⟩) h
        · exact h.elim
      · exact h.elim
    · split at h
      · rename_i hi
        split at h
        · rename_i F eF
          exact own_left_ok hl tk (fun k F hk A E s x dx od b Q X I z => inpl_of1 X I (hp k F hk) z) I c rx ry rv ru e1 eF (.inr hi) h
        · exact h.elim
      · exact h.elim
  · split at h
    · split at h
      · exact h.elim
      · exact h.elim
    · exact hg pins s σ w st x y vx vy v u Q I c rx ry rv ru h
def plOk (X : Cx) (op : Operator) (lt : BT) : Prop := ∀ k F, bfind lt k = some F → plainI X.K (gaS X.K k) op.info.2 = true
theorem plOk.nil {op : Operator} : plOk X op [] := fun k F h => by cases h
theorem plOk.cons {op : Operator} {k : String} {F : DF} {bt : BT} (h : plainI X.K (gaS X.K k) op.info.2 = true) (t : plOk X op bt) : plOk X op ((k, F) :: bt) := fun k' F' h' => by
  unfold bfind at h'
  split at h'
  · rename_i e
    rw [← e]
    exact h
  · exact t k' F' h'
/-! ### ints: // and % by any divisor but 0 -/
noncomputable def fdivC (j : Int) : Bool := decide (Ok (j ≠ 0)) && decide (Ok (j.natAbs.log2 < 9000))
def fdivI : D2 := i2 (fun _ j => fdivC j) fun i j => .int (i.fdiv j)
def fmodI : D2 := i2 (fun _ j => decide (Ok (j ≠ 0))) fun i j => .int (i.fmod j)
theorem op_fdivWN : OpR X (binaryOp .FloorDiv) (rI (fun _ j => j ≠ 0 ∧ j.natAbs.log2 < 9000) fun i j => .int (i.fdiv j)) := opI fun _ _ _ _ _ _ _ hc q => floordiv_int hc.1 q (.inl (PyProof.noPylong_of_log2 hc.2))
theorem o_fdivI : OpD X Wx (binaryOp .FloorDiv) fdivI := opd_int op_fdivWN (fun i j h => by
  unfold fdivC at h
  rw [Bool.and_eq_true] at h
  exact ⟨ok_of h.1, ok_of h.2⟩) fun w i j => rel_int w _
theorem o_fmodI : OpD X Wx (binaryOp .Mod) fmodI := opd_int op_modN (fun i j h => ok_of h) fun w i j => rel_int w _
/-! ### -x, abs(x) -/
variable {a : Expr} {ma : M D} {pos : Pos}
def negX (bt : BT) (ma : M D) : M D := fun env st => (ma env st).bind fun d s1 => match insD s1 d with
  | some (k, _, _) => (match bfind bt k with
    | some F => F [d] s1
    | none => .bad)
  | none => match d with
    | .int i => .ok (.int (-i)) s1
    | _ => .bad
theorem ce_negX {bt : BT} (hb : StOk X "__neg__" bt) (tk : Takes X Wx) (ha : CE X Wx a ma) : CE X Wx (.UnaryOp .USub a pos) (negX bt ma) := by
  refine ⟨fun pins s σ H Q I h => ?_⟩
  obtain ⟨mu, xi, env, st, re, c, h⟩ := h
  refine UnaryOp_ (thn (ha.run pins s σ H _ I (tG_bind (R := Rel X.K) re c h)) fun v s1 ⟨x, H1, I1, r1, mu1, xi1, d, st1, l1, rd, c1, re1, p1⟩ => ?_)
  cases hi : insD st1 d with
  | some kk =>
    obtain ⟨k, fs, xs⟩ := kk
    rw [hi] at p1
    dsimp only at p1
    split at p1
    · rename_i F eF
      obtain ⟨a1, dx1, gs1, ea1, q1, _, _⟩ := insD_ok c1 rd hi
      subst ea1
      cases r1
      obtain ⟨lv, hr, B⟩ := hb k F eF
      obtain ⟨fn, hs, hf, G⟩ := B.ex
      obtain ⟨od1, J1⟩ := inst_of I1 q1
      exact neg_own I1.kIn J1 hs hf (G.run (w := ⟨H1, mu1, xi1⟩) (ds := [d]) (vs := [.ref a1]) (us := [.ref a1]) hr tk I1 c1 (.cons rd .nil) (.cons rfl .nil) p1)
    · exact p1.elim
  | none =>
    rw [hi] at p1
    dsimp only at p1
    cases d with
    | int i =>
      unfold Rel at rd
      subst rd
      exact un_neg pins s1 σ H1 _ _ Q I1 r1 ⟨i, rfl, p1 ⟨H1, mu1, xi1⟩ _ (.refl _) (rel_int _ _) c1⟩
    | _ => exact p1.elim
theorem FnD.run1 {lv : Nat} {f : Addr} {F : DF} (G : FnD X.prog X.w X.K X.mg X.base lv f F) (hr : Room lv X.A.in1) (tk : Takes X Wx) {pins : List (Addr × Obj)} {s : Shared} {σ : L2.St} {w : Wd} {st : Sto} {ds : List D} {vs : List V} {us : List Value} {Q : VK} (I : Inv X pins σ w.H s)
    (c : Corr X.K w st) (r : Rels X.K w ds vs) (rv : Vals vs us) (h : Post X.K (Rel X.K) w σ Wx Q (F ds st)) : wpAny (model X.prog X.w) X.A.in1 (call (.ref f) us) (EP X pins σ Q) X.xe s := by
  have hx : PassesAt (L2.CX X.prog X.w) X σ (WE Wx σ) := passAt tk σ
  refine wpAny_call (codeAny_mono (G.ex X.A.in1 X.stack s w.H us vs Q (WE Wx σ) hr I.env0.in1 rv ⟨w.mu, w.xi, ds, st, r, c, ?_⟩) fun r s' hq => ?_)
  rotate_left
  · cases r with
    | error e => exact hx pins w.H s e s' I hq
    | ok fl =>
      cases fl with
      | ret u => exact I.after hq
      | next => exact False.elim hq
      | brk => exact False.elim hq
      | cont => exact False.elim hq
  cases e : F ds st with
  | ok d st' => rw [e] at h; exact h
  | exc k fs xs st' => rw [e] at h; exact h
  | bad => rw [e] at h; exact h
/-- one more level: for what a built-in calls -/
def StOk1 (X : Cx) (m : String) (bt : BT) : Prop := ∀ k F, bfind bt k = some F → ∃ lv, Room (lv + 1) X.A ∧ SpcD X.prog X.w X.K X.mg X.base lv k m F
theorem StOk1.nil {m : String} : StOk1 X m [] := fun k F h => by cases h
theorem StOk1.cons {m : String} {lv : Nat} {k : String} {F : DF} {bt : BT} (hr : Room (lv + 1) X.A) (h : SpcD X.prog X.w X.K X.mg X.base lv k m F) (t : StOk1 X m bt) : StOk1 X m ((k, F) :: bt) := fun k' F' h' => by
  unfold bfind at h'
  split at h'
  · rename_i e
    cases h'
    rw [← e]
    exact ⟨lv, hr, h⟩
  · exact t k' F' h'
def absX (bt : BT) : DF
  | [d], st => (match insD st d with
    | some (k, _, _) => (match bfind bt k with
      | some F => F [d] st
      | none => .bad)
    | none => match d with
      | .int i => .ok (.int (absI i)) st
      | _ => .bad)
  | _, _ => .bad
theorem c_absX {bt : BT} (hb : StOk1 X "__abs__" bt) (tk : Takes X Wx) : CallD X Wx (.builtin "abs") (absX bt) := by
  intro pins s σ w st ds vs us Q I c r rv h
  unfold absX at h
  split at h
  · rename_i d
    obtain ⟨v, ev, rd⟩ := r.one
    subst ev
    cases hi : insD st d with
    | some kk =>
      obtain ⟨k, fs, xs⟩ := kk
      rw [hi] at h
      dsimp only at h
      split at h
      · rename_i F eF
        obtain ⟨a1, dx1, gs1, ea1, q1, _, _⟩ := insD_ok c rd hi
        subst ea1
        have e : us = [.ref a1] := Vals.ref1 rv
        subst e
        obtain ⟨lv, hr, B⟩ := hb k F eF
        obtain ⟨fn, hs, hf, G⟩ := B.ex
        obtain ⟨od1, J1⟩ := inst_of I q1
        refine PySem.Calls.call_function_entry kind_abs plain_abs entry_abs (args_abs _) ?_
        unfold Builtin.«abs»
        refine wpAny_bind (m := oneArg "abs" _) (wpAny_pure (wpAny_bind (m := callSpecial? (.ref a1) (Str.ofString "__abs__")) ?_))
        refine special_fn I.kIn J1 hs (beq_iff_eq.mp hf) ?_
        exact wpAny_mono (G.run1 (w := w) (ds := [d]) (vs := [.ref a1]) (us := [.ref a1]) hr.in1 tk I c (.cons rd .nil) (.cons rfl .nil) h) (fun r s' q => wpAny_pure ⟨_, rfl, q⟩) fun _ _ e => e
      · exact h.elim
    | none =>
      rw [hi] at h
      dsimp only at h
      cases d with
      | int i =>
        unfold Rel at rd
        subst rd
        exact call_abs pins s σ w.H _ us Q I rv ⟨i, rfl, h w _ (.refl _) (rel_int _ _) c⟩
      | _ => exact h.elim
  · exact h.elim
end
end
end ND
noncomputable section
namespace ND
open PySem L2 PyProof.Rows
section
variable {X : Cx} {Wx : WX} {a b c e o : Expr} {es : List Expr} {ms : M (List D)} {pos pos' p np : Pos}
/-! ### raise of an own class without __init__ -/
theorem pmk_own0 {C : Addr} {bmB : List Value} {B newId initId : String} {x : Str} (F : ExcBaseFacts B newId initId bmB) (q : PySem.W.excIn X.K C bmB newId = true) (gC : X.mg x = some (.ref C))
    (kC : PySem.W.keepIn X.K (.ref C) = true) (r : Raises X (.ref C)) (hg : Gl X x) (hdb : (x == ("__debug__" : Str)) = false := by decide) :
    PMk X (.Call (.Name x p) [] [] pos) (fun _ H Q => Q (.ref C) none H) := by
  intro pins s σ H Q I h
  refine wpAny_Call_Name_kw (ld_glob I hg gC (PySem.W.callWith_K0 I.kIn kC ?_) hdb)
  show wpAny _ _ (call (.ref C) []) _ _ _
  obtain ⟨bm, N, nm, qn, bs, hdct, sn, sub, ab, col, dd, k0, k1, k2, k3, k5, mN, hC, hN, hni, T⟩ := exc_obj I.kIn q
  refine wpAny_call_exc_subT F T hC hN hni (fun h' e hm => ?_) (Nat.zero_le _)
  exact mk_of I hm r h (I.hok.gone hm.new)
/-- what is known of an own exception class over ValueError, without __init__ -/
structure ExD (K : PySem.W.Frag) (mg : Str → Option Value) (k : String) : Prop where
  mg : mg (Str.ofString k) = some (.ref (gaS K k))
  ex : PySem.W.excIn K (gaS K k) [.type "ValueError", .type "Exception", .type "BaseException", .type "object"] "ValueError.__new__" = true
  kp : PySem.W.keepIn K (.ref (gaS K k)) = true
  sub : PySem.W.subIn K (.ref (gaS K k)) (.type "BaseException") = some true
  ty : PySem.W.typeIn K (.ref (gaS K k)) = some (.type "type")
def sRaise0 (k : String) : MS := fun env st => .exc k [] [] env st
theorem cs_raise0 {k : String} {kn : Str} (E : ExD X.K X.mg k) (tk : Takes X Wx) (en : kn = Str.ofString k := by rfl) (hc : X.calm = true := by rfl) (hg : Gl X kn := by rfl) (hdb : (kn == ("__debug__" : Str)) = false := by decide) :
    CS X Wx (.Raise (some (.Call (.Name kn p) [] [] pos)) none pos') (sRaise0 k) := by
  subst en
  refine PS.mono (ps_raise hc tk (pmk_own0 PySem.F.excBase_ValueError E.ex E.mg E.kp (raises_own E.sub E.ty) hg hdb)) fun D σ H h => ?_
  obtain ⟨mu, xi, env, st, re, c, h⟩ := h
  exact h ⟨H, mu, xi⟩ σ none (.refl _) re c (.inl ⟨rfl, rfl, rfl⟩)
/-! ### try -/
abbrev XT : Type := List (String × Bool)
def xfind : XT → String → Option Bool
  | [], _ => none
  | (k', b) :: r, k => if k' = k then some b else xfind r k
def XtOk (K : PySem.W.Frag) (c : Value) (xt : XT) : Prop := ∀ q ∈ xt, PySem.W.exmOne K (.ref (gaS K q.1)) c = some q.2
theorem XtOk.nil {K : PySem.W.Frag} {c : Value} : XtOk K c [] := fun q h => by cases h
theorem XtOk.cons {K : PySem.W.Frag} {c : Value} {k : String} {b : Bool} {xt : XT} (h : PySem.W.exmOne K (.ref (gaS K k)) c = some b) (t : XtOk K c xt) : XtOk K c ((k, b) :: xt) := fun q hq => by
  rcases List.mem_cons.mp hq with rfl | hq
  · exact h
  · exact t q hq
theorem xfind_ok {K : PySem.W.Frag} {c : Value} : ∀ {xt : XT} {k : String} {b : Bool}, XtOk K c xt → xfind xt k = some b → PySem.W.exmOne K (.ref (gaS K k)) c = some b
  | [], _, _, _, h => by cases h
  | (k', b') :: r, k, b, t, h => by
    unfold xfind at h
    split at h
    · rename_i e
      cases h
      rw [← e]
      exact t _ List.mem_cons_self
    · exact xfind_ok (fun q hq => t q (List.mem_cons_of_mem _ hq)) h
/-- no exception leaves a suite -/
def noXS : SRes → SRes
  | .exc _ _ _ _ _ => .bad
  | r => r
def sTry (xt : XT) (m su : MS) : MS := fun env st => match m env st with
  | .exc k fs xs e s => (match xfind xt k with
    | some true => noXS (su e s)
    | some false => .exc k fs xs e s
    | none => .bad)
  | r => r
theorem postS_noX {K : PySem.W.Frag} {w : Wd} {W : WX} {E : Ends} {r : SRes} (h : PostS K w W E (noXS r)) : PostS K w noW E r := by
  cases r with
  | exc k fs xs e s => exact h.elim
  | _ => exact h
theorem cs_try {x : Str} {cv : Value} {body : List Stmt} {b₀ : Stmt} {suite : List Stmt} {xt : XT} {m su : MS} (tk : Takes X Wx) (hc : Names X x cv) (hx : XtOk X.K cv xt)
    (hb : ∀ (W : WX) (pn : List (Addr × Obj)) (xe : Value → Shared → Prop), Takes (X.tr pn xe) W → PassesOwn (model X.prog X.w) X.A X.env xe → CSs (X.tr pn xe) W body m)
    (hsu : ∀ (a : Addr) (oe : Obj) (pn : List (Addr × Obj)), CSs (X.suite a ((a, oe) :: pn)) noW (b₀ :: suite) su)
    (hs : X.stack = X.env :: X.outer := by rfl) (hf : X.env.frame = some X.env.locals := by rfl) :
    CS X Wx (.Try body [.ExceptHandler (some (.Name x np)) none (b₀ :: suite) pos'] [] [] pos) (sTry xt m su) := by
  refine PS.mono (ps_try_only (tb := fun W => tS X.K W m) (ts := fun _ _ _ => tS X.K noW su) hs hf hc tk (fun W pn xe tk' hp' => hb W pn xe tk' hp') fun a oe cls d pn _ _ => hsu a oe pn) fun E σ H h => ?_
  obtain ⟨mu, xi, env, st, re, c, h⟩ := h
  refine ⟨mu, xi, env, st, re, c, ?_⟩
  unfold sTry at h
  cases er : m env st with
  | exc k fs xs e s =>
    rw [er] at h
    dsimp only at h
    cases ex : xfind xt k with
    | none =>
      rw [ex] at h
      exact h.elim
    | some b =>
      rw [ex] at h
      intro w' σ' dd l re' c' xr
      refine ⟨b, xfind_ok hx ex, fun hb1 a ha => ?_, fun hb0 => ?_⟩
      · subst hb1
        exact ⟨w'.mu, w'.xi, e, s, re', c', postS_noX (PostS.le h l)⟩
      · subst hb0
        exact h w' σ' dd l re' c' xr
  | nx e s => rw [er] at h; exact h
  | rt d s => rw [er] at h; exact h
  | bk e s => rw [er] at h; exact h
  | ct e s => rw [er] at h; exact h
  | bad => rw [er] at h; exact h
/-! ### except x as e -/
abbrev MSX : Type := String → List String → List D → MS
def unsetR (i : Nat) : SRes → SRes
  | .nx e s => .nx (e.set i none) s
  | .bk e s => .bk (e.set i none) s
  | .ct e s => .ct (e.set i none) s
  | .rt d s => .rt d s
  | _ => .bad
def sTryAs (i : Nat) (xt : XT) (m : MS) (su : MSX) : MS := fun env st => match m env st with
  | .exc k fs xs e s => (match xfind xt k with
    | some true => if i < e.length then unsetR i (su k fs xs (e.set i (some (.exc k fs xs))) s) else .bad
    | some false => .exc k fs xs e s
    | none => .bad)
  | r => r
/-- a suite that holds the exception at a, in slot i -/
def tSu (K : PySem.W.Frag) (i : Nat) (su : MSX) (a : Addr) (cls : Value) (d : Option Addr) : TS := fun E σ H => ∃ k fs xs mu xi env st, cls = .ref (gaS K k) ∧ σ[i]? = some (some (.ref a)) ∧ XRel K ⟨H, mu, xi⟩ fs xs d ∧ REnv K ⟨H, mu, xi⟩ env σ ∧ Corr K ⟨H, mu, xi⟩ st ∧ PostS K ⟨H, mu, xi⟩ noW E (su k fs xs env st)
def CSu (X : Cx) (i : Nat) (suite : List Stmt) (su : MSX) : Prop := ∀ (a : Addr) (oe : Obj) (cls : Value) (d : Option Addr) (pn : List (Addr × Obj)), Zc cls d oe → (∃ vs, oe.data = .fields vs) → PSs (X.suite a ((a, oe) :: pn)) suite (tSu X.K i su a cls d)
theorem post_unset {K : PySem.W.Frag} {w : Wd} {W : WX} {E : Ends} {i : Nat} {r : SRes} (h : PostS K w W E (unsetR i r)) : PostS K w noW { nx := fun σ' H' => E.nx (σ'.set i none) H', rt := E.rt, bk := fun σ' H' => E.bk (σ'.set i none) H', ct := fun σ' H' => E.ct (σ'.set i none) H' } r := by
  cases r with
  | nx e s => exact fun w' σ' l re c => h w' _ l (re.unset i) c
  | rt d s => exact h
  | bk e s => exact fun w' σ' l re c => h w' _ l (re.unset i) c
  | ct e s => exact fun w' σ' l re c => h w' _ l (re.unset i) c
  | exc k fs xs e s => exact h.elim
  | bad => exact h.elim
theorem cs_tryAs (i : Nat) {x n : Str} {cv : Value} {body : List Stmt} {b₀ : Stmt} {suite : List Stmt} {xt : XT} {m : MS} {su : MSX} (tk : Takes X Wx) (hN : X.N.Nodup) (hc : Names X x cv) (hx : XtOk X.K cv xt)
    (hb : ∀ (W : WX) (pn : List (Addr × Obj)) (xe : Value → Shared → Prop), Takes (X.tr pn xe) W → PassesOwn (model X.prog X.w) X.A X.env xe → CSs (X.tr pn xe) W body m)
    (hsu : CSu X i (b₀ :: suite) su) (hi : X.N[i]? = some n := by rfl) (hln : X.env.kindOf n = some .local := by rfl)
    (hs : X.stack = X.env :: X.outer := by rfl) (hf : X.env.frame = some X.env.locals := by rfl) :
    CS X Wx (.Try body [.ExceptHandler (some (.Name x np)) (some n) (b₀ :: suite) pos'] [] [] pos) (sTryAs i xt m su) := by
  refine PS.mono (ps_try_as (tb := fun W => tS X.K W m) (ts := tSu X.K i su) hs hf hN hi hln hc tk (fun W pn xe tk' hp' => hb W pn xe tk' hp') hsu) fun E σ H h => ?_
  obtain ⟨mu, xi, env, st, re, c, h⟩ := h
  refine ⟨mu, xi, env, st, re, c, ?_⟩
  unfold sTryAs at h
  cases er : m env st with
  | exc k fs xs e s =>
    rw [er] at h
    dsimp only at h
    cases ex : xfind xt k with
    | none =>
      rw [ex] at h
      exact h.elim
    | some b =>
      rw [ex] at h
      intro w' σ' dd l re' c' xr
      refine ⟨b, xfind_ok hx ex, fun hb1 a ha => ?_, fun hb0 => ?_⟩
      · subst hb1
        dsimp only at h
        by_cases hie : i < e.length
        · rw [if_pos hie] at h
          have rs : REnv X.K w' (e.set i (some (.exc k fs xs))) (σ'.set i (some (.ref a))) := re'.set i (by unfold Rel; trivial)
          exact ⟨k, fs, xs, w'.mu, w'.xi, _, s, rfl, List.getElem?_set_self (by rw [← re'.1]; exact hie), xr, rs, c', post_unset (PostS.le h l)⟩
        · rw [if_neg hie] at h
          exact h.elim
      · subst hb0
        exact h w' σ' dd l re' c' xr
  | nx e s => rw [er] at h; exact h
  | rt d s => rw [er] at h; exact h
  | bk e s => rw [er] at h; exact h
  | ct e s => rw [er] at h; exact h
  | bad => rw [er] at h; exact h
/-! ### suites of one assignment that ask the exception -/
abbrev XG : Type := String → List String → List D → Sto → Res D
def XR (X : Cx) (i : Nat) (rhs : Expr) (g : XG) : Prop := ∀ (a : Addr) (oe : Obj) (cls : Value) (d : Option Addr) (pn : List (Addr × Obj)), Zc cls d oe → (∃ vs, oe.data = .fields vs) → ∃ te : TE, PE (X.suite a ((a, oe) :: pn)) rhs te ∧
  ∀ (k : String) (fs : List String) (xs : List D) (mu xi : List Addr) (st : Sto) (σ : L2.St) (H : Hp) (Q : VK), cls = .ref (gaS X.K k) → σ[i]? = some (some (.ref a)) → XRel X.K ⟨H, mu, xi⟩ fs xs d → Corr X.K ⟨H, mu, xi⟩ st → Post X.K (Rel X.K) ⟨H, mu, xi⟩ σ noW Q (g k fs xs st) → te σ H Q
def xSet (j : Nat) (g : XG) : MSX := fun k fs xs env st => (g k fs xs st).toS env fun d s1 => .nx (env.set j (some d)) s1
theorem csu_set {i : Nat} (j : Nat) {y : Str} {rhs : Expr} {g : XG} {p1 p2 : Pos} (h : XR X i rhs g) (hN : X.N.Nodup) (hj : X.N[j]? = some y := by rfl) (hy : Loc X.env.scope y := by first | exact Or.inl rfl | exact Or.inr rfl)
    (hsw : swapsWith rhs (some (.Name y p1)) p2.line X.env = pure false := by rfl) (hfn : X.fn y = true ∨ X.env.scope.names.lookup y = some .local := by first | exact .inl rfl | exact .inr rfl | assumption) : CSu X i [.Assign [.Name y p1] rhs p2] (xSet j g) := by
  intro a oe cls d pn hz hf
  obtain ⟨te, he, hte⟩ := h a oe cls d pn hz hf
  refine PSs.mono (pss_one (ps_set (X := X.suite a ((a, oe) :: pn)) (i := j) hN hj hy he hsw (hf := hfn))) fun E σ H h => ?_
  obtain ⟨k, fs, xs, mu, xi, env, st, ec, ha, xr, re, c, h⟩ := h
  refine hte k fs xs mu xi st σ H _ ec ha xr c ?_
  unfold xSet at h
  cases er : g k fs xs st with
  | ok x s =>
    rw [er] at h
    exact fun w' v l r c' => h w' _ l ((re.le l).set j r) c'
  | exc k' fs' xs' s =>
    rw [er] at h
    exact fun w' dd l c' x => h w' σ dd l (re.le l) c' x
  | bad =>
    rw [er] at h
    exact h
theorem xfind_mem : ∀ {xt : XT} {k : String} {b : Bool}, xfind xt k = some b → (k, b) ∈ xt
  | [], _, _, h => by cases h
  | (k', b') :: r, k, b, h => by
    unfold xfind at h
    split at h
    · rename_i e
      cases h
      rw [← e]
      exact List.mem_cons_self
    · exact List.mem_cons_of_mem _ (xfind_mem h)
def rIsX (K : PySem.W.Frag) (tab : XT) (a : Addr) (cls : Value) (d : Option Addr) : List V → Hp → VK → Prop := fun vs H Q => ∃ (cv : V) (cu : Value) (b : Bool) (q : String × Bool), vs = [.ref a, cv] ∧ (∀ u, L2.RelV cv u → u = cu) ∧ q ∈ tab ∧ cls = .ref (gaS K q.1) ∧ PySem.W.kitOne K cls cu = some b ∧
  (d = none ∨ ∃ dd gs, d = some dd ∧ H dd = some (.xd gs)) ∧ Q (.bl b) H
theorem call_isX {a : Addr} {oe : Obj} {cls : Value} {d : Option Addr} {pn : List (Addr × Obj)} {tab : XT} (hC : ∀ q ∈ tab, ExcC X.K (gaS X.K q.1)) (hz : Zc cls d oe) (hf : ∃ vs, oe.data = .fields vs) : CallR (X.suite a ((a, oe) :: pn)) (.builtin "isinstance") (rIsX X.K tab a cls d) := by
  intro pins s σ H vs us Q I r h
  obtain ⟨cv, cu, b, q, rfl, hcu, hq, ec, ek, hd, hQ⟩ := h
  cases r with
  | cons rx rr =>
    cases rr with
    | cons rt rr =>
      cases rr
      cases rx
      have e1 := hcu _ rt
      subst e1
      subst ec
      have C := hC q hq
      obtain ⟨hget, _⟩ := I.pin (a, oe) (List.mem_append.mpr (.inl List.mem_cons_self))
      obtain ⟨fv, hv⟩ := hf
      have J : ∃ od, PySem.W.InstAt s.heap a oe (gaS X.K q.1) od := by
        obtain ⟨oc, od, oda, osl⟩ := oe
        obtain ⟨h1, h2⟩ := hz
        dsimp only at h1 h2 hv
        subst h1 h2 hv
        rcases hd with rfl | ⟨dd, gs, rfl, hdd⟩
        · exact ⟨none, hget, rfl, rfl, trivial⟩
        · obtain ⟨mA, hns, _⟩ := I.hok dd _ hdd
          obtain ⟨o2, ho, _⟩ := lookIn_ns hns
          exact ⟨some o2, hget, rfl, rfl, ho⟩
      obtain ⟨od, J⟩ := J
      have hcl : (PySem.W.clsIn X.K (gaS X.K q.1)).isSome = true := by
        obtain ⟨cd, hc, _⟩ := PySem.W.any_some C.hd
        rw [hc]
        rfl
      exact PySem.W.kia_one (PySem.W.kitx_exc hcl C.hg C.hk C.hs C.ha C.hn C.ht C.hm) I.kIn J ek (fun z => nomatch z) fun tk => ⟨.bl b, H, I.kept (t' := tk) fun _ _ z => z, rfl, hQ⟩
/-- isinstance(e, T), by a table of the exception's class -/
def xIsi (tab : XT) : XG := fun k _ _ st => match xfind tab k with
  | some b => .ok (.bl b) st
  | none => .bad
theorem xr_isi {i : Nat} {n t : Str} {cv : V} {cu : Value} {tab : XT} {p1 p2 p3 p4 : Pos} (hm : X.mg "isinstance" = none) (hT : ∀ a oe pn, PE (X.suite a ((a, oe) :: pn)) (.Name t p3) (tC cv)) (hv : ∀ u, L2.RelV cv u → u = cu) (hC : ∀ q ∈ tab, ExcC X.K (gaS X.K q.1))
    (hk : ∀ q ∈ tab, PySem.W.kitOne X.K (.ref (gaS X.K q.1)) cu = some q.2) (hg : Gl X "isinstance" := by rfl) (hi : X.N[i]? = some n := by rfl) (hvis : Vis X.env.scope n := by first | exact Or.inl rfl | exact Or.inr (Or.inl rfl) | exact Or.inr (Or.inr rfl))
    (hd : (n == ("__debug__" : Str)) = false := by decide) (hcd : (n == ("__classdict__" : Str)) = false := by decide)
    (h1 : starEach [Expr.Name t p3] X.env = (false, eval (.Name t p3) X.env) :: starEach [] X.env := by rfl)
    (h2 : starEach [Expr.Name n p2, .Name t p3] X.env = (false, eval (.Name n p2) X.env) :: starEach [.Name t p3] X.env := by rfl)
    (hpl : (backTo p4 (starEach [Expr.Name t p3] X.env)).any (·.1) = false := by rfl) :
    XR X i (.Call (.Name "isinstance" p1) [.Name n p2, .Name t p3] [] p4) (xIsi tab) := by
  intro a oe cls d pn hz hf
  refine ⟨_, pe_callB (X := X.suite a ((a, oe) :: pn)) (call_isX hC hz hf) hg hm boot_isinstance (pa_cons (pe_var (i := i) hi hvis hd hcd) (pa_cons (hT a oe pn) pa_nil h1) h2) (he := h2) (hpl := hpl), ?_⟩
  intro k fs xs mu xi st σ H Q ec ha xr c h
  unfold xIsi at h
  cases ex : xfind tab k with
  | none =>
    rw [ex] at h
    exact h.elim
  | some b =>
    rw [ex] at h
    have hm2 := xfind_mem ex
    refine ⟨_, ha, cv, cu, b, (k, b), rfl, hv, hm2, ec, by rw [ec]; exact hk _ hm2, ?_, h ⟨H, mu, xi⟩ _ (.refl _) (rel_bl _ _) c⟩
    rcases xr with ⟨_, _, e⟩ | ⟨dd, gs, e, f, _, _⟩
    · exact .inl e
    · exact .inr ⟨dd, gs, e, fr_here f⟩
/-- e.f -/
def xFld (f : String) : XG := fun k fs xs st => match fget fs xs f with
  | some d => .ok d st
  | none => .bad
theorem xr_fld {i : Nat} {n fn : Str} {f : String} {ks : List String} {p1 p2 : Pos} (hC : ∀ k ∈ ks, XfC X.K (gaS X.K k)) (hno : ∀ k ∈ ks, PySem.W.findIn X.K (.ref (gaS X.K k)) fn = some none) (en : fn = Str.ofString f := by rfl) (hi : X.N[i]? = some n := by rfl)
    (hvis : Vis X.env.scope n := by first | exact Or.inl rfl | exact Or.inr (Or.inl rfl) | exact Or.inr (Or.inr rfl)) (hd : (n == ("__debug__" : Str)) = false := by decide) (hcd : (n == ("__classdict__" : Str)) = false := by decide)
    (hb : attributeBase (.Name n p1) fn X.env (eval (.Name n p1) X.env) = eval (.Name n p1) X.env := by rfl) :
    XR X i (.Attribute (.Name n p1) fn p2) (fun k fs xs st => if ks.contains k = true then xFld f k fs xs st else .bad) := by
  intro a oe cls d pn hz hf
  refine ⟨fun σ H Q => ∃ k, k ∈ ks ∧ tXf a cls d (gaS X.K k) fn (tVar i) σ H Q, ⟨fun pins s σ H Q I h => ?_⟩, ?_⟩
  · obtain ⟨k, hk, h⟩ := h
    exact (pe_xf (X := X) (hC k hk) (hno k hk) hz hf (pe_var (X := X.suite a ((a, oe) :: pn)) (i := i) hi hvis hd hcd) hb).run pins s σ H Q I h
  · intro k fs xs mu xi st σ H Q ec ha xr c h
    dsimp only at h
    split at h
    · rename_i hk
      have hk : k ∈ ks := List.contains_iff_mem.mp hk
      unfold xFld at h
      cases eg : fget fs xs f with
      | none =>
        rw [eg] at h
        exact h.elim
      | some y =>
        rw [eg] at h
        rcases xr with ⟨e1, e2, e⟩ | ⟨dd, gs, e, fr, e1, rs⟩
        · rw [e1, e2] at eg
          cases eg
        · obtain ⟨v, hv, rv⟩ := fget_ok e1 rs eg
          subst en
          exact ⟨k, hk, _, ha, rfl, ec, dd, gs, v, e, fr_here fr, hv, h ⟨H, mu, xi⟩ v (.refl _) rv c⟩
    · exact h.elim
def xAnd (g1 g2 : XG) : XG := fun k fs xs st => (g1 k fs xs st).bind fun d s => match d with
  | .bl true => g2 k fs xs s
  | .bl false => .ok (.bl false) s
  | _ => .bad
def xNot (g : XG) : XG := fun k fs xs st => (g k fs xs st).bind fun d s => match d with
  | .bl b => .ok (.bl (!b)) s
  | _ => .bad
theorem xpost {σ : L2.St} {w : Wd} {Q : VK} {r : Res D} {f : D → Sto → Res D} (h : Post X.K (Rel X.K) w σ noW Q (r.bind f)) : Post X.K (Rel X.K) w σ noW (fun v H1 => ∃ mu xi d st1, w.Le ⟨H1, mu, xi⟩ ∧ Rel X.K ⟨H1, mu, xi⟩ d v ∧ Corr X.K ⟨H1, mu, xi⟩ st1 ∧ Post X.K (Rel X.K) ⟨H1, mu, xi⟩ σ noW Q (f d st1)) r := by
  cases r with
  | ok d st1 => exact fun w' v l r c => ⟨w'.mu, w'.xi, d, st1, l, r, c, Post.le h l⟩
  | exc k fs xs s => exact h
  | bad => exact h
theorem xr_one {i : Nat} {op : BoolOp} {r : Expr} {g : XG} {p1 : Pos} (h : XR X i r g) : XR X i (.BoolOp op [r] p1) g := by
  intro a oe cls d pn hz hf
  obtain ⟨te, he, hte⟩ := h a oe cls d pn hz hf
  exact ⟨te, pe_one he, hte⟩
theorem xr_and {i : Nat} {r1 r2 : Expr} {rest : List Expr} {g1 g2 : XG} {p1 : Pos} (h1 : XR X i r1 g1) (h2 : XR X i (.BoolOp .And (r2 :: rest) p1) g2) : XR X i (.BoolOp .And (r1 :: r2 :: rest) p1) (xAnd g1 g2) := by
  intro a oe cls d pn hz hf
  obtain ⟨t1, he1, ht1⟩ := h1 a oe cls d pn hz hf
  obtain ⟨t2, he2, ht2⟩ := h2 a oe cls d pn hz hf
  refine ⟨_, pe_and he1 he2, ?_⟩
  intro k fs xs mu xi st σ H Q ec ha xr c h
  refine ht1 k fs xs mu xi st σ H _ ec ha xr c (Post.mono (xpost h) fun v H1 ⟨mu1, xi1, y, st1, l, ry, c1, h1⟩ => ?_)
  cases y with
  | bl b =>
    unfold Rel at ry
    cases b with
    | true => exact ⟨true, ry, ht2 k fs xs mu1 xi1 st1 σ H1 Q ec ha (xr.sub l.sub) c1 h1⟩
    | false => exact ⟨false, ry, h1 ⟨H1, mu1, xi1⟩ _ (.refl _) (rel_bl _ _) c1⟩
  | _ => exact h1.elim
theorem xr_not {i : Nat} {r : Expr} {g : XG} {p1 : Pos} (h1 : XR X i r g) : XR X i (.UnaryOp .Not r p1) (xNot g) := by
  intro a oe cls d pn hz hf
  obtain ⟨t1, he1, ht1⟩ := h1 a oe cls d pn hz hf
  refine ⟨_, pe_not he1, ?_⟩
  intro k fs xs mu xi st σ H Q ec ha xr c h
  refine ht1 k fs xs mu xi st σ H _ ec ha xr c (Post.mono (xpost h) fun v H1 ⟨mu1, xi1, y, st1, l, ry, c1, h1⟩ => ?_)
  cases y with
  | bl b =>
    unfold Rel at ry
    exact ⟨b, ry, h1 ⟨H1, mu1, xi1⟩ _ (.refl _) (rel_bl _ _) c1⟩
  | _ => exact h1.elim
end
end ND
end
noncomputable section
namespace ND
open PySem L2 PyProof.Rows
section
variable {X : Cx} {Wx : WX} {a b c e o : Expr} {es : List Expr} {ma mb : M D} {ms : M (List D)} {pos p : Pos}
def fmtD (x : D) (st : Sto) : Res D := match x with
  | .str y => if Ok (y.length ≤ sizeLine) then .ok (.str y) st else .bad
  | .int i => if Ok (i.natAbs.log2 < 1920) then .ok (.str (strI i)) st else .bad
  | _ => .bad
def eFmt (ma : M D) : M D := fun env st => (ma env st).bind fmtD
theorem ce_fmt (ha : CE X Wx a ma) : CE X Wx (.FormattedValue a (-1) none pos) (eFmt ma) := PE.mono (pe_fmt ha) fun σ H Q h => by
  obtain ⟨mu, xi, env, st, re, c, h⟩ := h
  refine tG_mono (tG_bind (R := Rel X.K) re c h) fun v H1 ⟨mu1, xi1, d, st1, l1, r1, c1, re1, p1⟩ => ?_
  unfold fmtD at p1
  split at p1
  · rename_i y
    split at p1
    · rename_i hz
      unfold Rel at r1
      exact .inl ⟨y, r1, hz, p1 ⟨H1, mu1, xi1⟩ _ (.refl _) (rel_str _ _) c1⟩
    · exact p1.elim
  · rename_i i
    split at p1
    · rename_i hz
      unfold Rel at r1
      exact .inr ⟨i, r1, hz, p1 ⟨H1, mu1, xi1⟩ _ (.refl _) (rel_str _ _) c1⟩
    · exact p1.elim
  · exact p1.elim
/-- the parts, joined -/
def jsD : List (M D) → Str → M D
  | [], acc => fun _ st => .ok (.str acc) st
  | m :: ms, acc => fun env st => (m env st).bind fun d s1 => match d with
    | .str y => if Ok ((acc ++ y).length ≤ sizeLine) then jsD ms (acc ++ y) env s1 else .bad
    | _ => .bad
inductive CJ (X : Cx) (Wx : WX) : List Expr → List (M D) → Prop where
  | nil : CJ X Wx [] []
  | cons {e : Expr} {m : M D} {es : List Expr} {ms : List (M D)} (h : CE X Wx e m) (r : CJ X Wx es ms) : CJ X Wx (e :: es) (m :: ms)
theorem CJ.pj {es : List Expr} {ms : List (M D)} (h : CJ X Wx es ms) : PJ X es (ms.map fun m => tE X.K Wx m) := by
  induction h with
  | nil => exact .nil
  | cons h r ih => exact .cons h ih
theorem js_ok {ms : List (M D)} : ∀ {acc : Str} {w : Wd} {σ : L2.St} {Q : VK} {env : Env} {st : Sto}, REnv X.K w env σ → Corr X.K w st → Post X.K (Rel X.K) w σ Wx Q (jsD ms acc env st) → tJs (ms.map fun m => tE X.K Wx m) acc σ w.H fun out H1 => Q (.str out) H1 := by
  induction ms with
  | nil => exact fun {acc w σ Q env st} re c h => h w _ (.refl _) (rel_str _ _) c
  | cons m ms ih =>
    intro acc w σ Q env st re c h
    refine tG_mono (tG_bind (R := Rel X.K) (R' := Rel X.K) (ma := m) re c h) fun v H1 ⟨mu1, xi1, d, st1, l1, r1, c1, re1, p1⟩ => ?_
    cases d with
    | str y =>
      unfold Rel at r1
      dsimp only at p1
      split at p1
      · rename_i hz
        exact ⟨y, r1, hz, ih (w := ⟨H1, mu1, xi1⟩) re1 c1 p1⟩
      · exact p1.elim
    | _ => exact p1.elim
def eJs (ms : List (M D)) : M D := jsD ms Str.empty
theorem ce_js {v1 v2 : Expr} {rest : List Expr} {ms : List (M D)} (h : CJ X Wx (v1 :: v2 :: rest) ms) : CE X Wx (.JoinedStr (v1 :: v2 :: rest) pos) (eJs ms) := PE.mono (pe_joined h.pj) fun σ H Q h => by
  obtain ⟨mu, xi, env, st, re, c, h⟩ := h
  exact js_ok (w := ⟨H, mu, xi⟩) re c h
end
theorem boot_ValueError : bootBuiltins "ValueError" = some (.type "ValueError") := by decide +kernel
/-- nothing is said -/
def badD : D2 := fun _ _ _ => .bad
theorem o_badD {X : Cx} {Wx : WX} {f : Value → Value → Sem Value} : OpD X Wx f badD := fun pins s σ w st x y vx vy v u Q I c rx ry rv ru h => h.elim
def xFldK (ks : List String) (f : String) : XG := fun k fs xs st => if ks.contains k = true then xFld f k fs xs st else .bad
/-! ### one default behind the parameters -/
noncomputable def fnDfl (p N : Nat) (lv : Bool) (dd : D) (m : MS) : DF := fun ds st => if ds.length + 1 = p then fn p N lv m (ds ++ [dd]) st else fn p N lv m ds st
theorem fnd_dfl {K : PySem.W.Frag} {P : Program} {w : World} {mg : Str → Option Value} {base : Heap} {k : Nat} {x qual : Str} {params : Arguments} {body : List Stmt} {scope : Scope} {dvs : List V} {f : Addr} {fd : FuncData} {N ps : List Str} {lv : Bool} {m : MS} {dd : D} {dv : V}
    (F : FunD K x qual params body scope dvs [] f fd) (S : FnScope N ps scope) (ed : dvs = [dv]) (n : Nat) (en : n + 1 = ps.length) (hd : ∀ w, Rel K w dd dv)
    (h0 : ∀ (T : Addr) (kV doc pm : Value) (an : Option Addr) (cdv ct : Value) (us its : List Value), us.length = n + 1 → its.length = 1 → ∃ k, bindArgs (PySem.W.fnOf x qual params body scope (.ref T) kV doc pm an cdv ct) ⟨us, []⟩ = seqItems? (.ref T) >>= k ∧ k (some its.toArray) = pure (ps.zip (us ++ its.drop 1)))
    (h1 : ∀ (T : Addr) (kV doc pm : Value) (an : Option Addr) (cdv ct : Value) (us its : List Value), us.length = n → its.length = 1 → ∃ k, bindArgs (PySem.W.fnOf x qual params body scope (.ref T) kV doc pm an cdv ct) ⟨us, []⟩ = seqItems? (.ref T) >>= k ∧ k (some its.toArray) = pure (ps.zip (us ++ its.drop 0)))
    (hbody : ∀ (cdv : Value) (A : Around) (outer : List PySem.Env) (s : Shared) (H : Hp) (E : XK), Room k (A.deeper (envOfC qual scope s.heap.objs.size f cdv)) → Takes (cxOf (L2.CX P w) P w K mg base N qual scope f cdv A outer s H E) (WXe E) →
      PassesOwn (model P w) (A.deeper (envOfC qual scope s.heap.objs.size f cdv)) (envOfC qual scope s.heap.objs.size f cdv) (cxOf (L2.CX P w) P w K mg base N qual scope f cdv A outer s H E).xe →
      CSs (cxOf (L2.CX P w) P w K mg base N qual scope f cdv A outer s H E) (WXe E) body m) : FnD P w K mg base (k + 1) f (fnDfl ps.length N.length lv dd m) := by
  subst ed
  obtain ⟨ds1, v1, b1⟩ := FunD.binds1 F n 0 (by simp) (by simpa using en) h1
  obtain ⟨ds0, v0, b0⟩ := FunD.binds1 F (n + 1) 1 (by simp) (by simpa using en) h0
  have ok : FnOk P w K mg base (L2.CX P w) (k + 1) f fd ps (spM K (fn ps.length N.length lv m)) := by
    refine F.ok S (fun vs H Q E h => ?_) (fun cdv A outer s H vs Q E hr h => ?_)
    · obtain ⟨mu, xi, ds, st, r, c, h⟩ := h
      unfold fn at h
      split at h
      · rename_i hl
        rw [← r.length]
        exact hl
      · exact h.elim
    · obtain ⟨mu, xi, ds, st, r, c, h⟩ := h
      unfold fn at h
      split at h
      · rename_i hl
        have tk : Takes (cxOf (L2.CX P w) P w K mg base N qual scope f cdv A outer s H E) (WXe E) := takes_of (X := cxOf (L2.CX P w) P w K mg base N qual scope f cdv A outer s H E) rfl rfl rfl rfl
        have hp : PassesOwn (model P w) (A.deeper (envOfC qual scope s.heap.objs.size f cdv)) (envOfC qual scope s.heap.objs.size f cdv) (cxOf (L2.CX P w) P w K mg base N qual scope f cdv A outer s H E).xe := passes_of (X := cxOf (L2.CX P w) P w K mg base N qual scope f cdv A outer s H E) rfl
        refine ⟨_, hbody cdv A outer s H E hr tk hp, mu, xi, _, st, REnv.start r, c, ?_⟩
        rw [← hl] at h
        exact fnEnd_ok c h
      · exact h.elim
  refine ⟨fun A outer s H us vs Q E hr e0 r h => ?_, F.kp⟩
  obtain ⟨mu, xi, ds, st, rs, c, h⟩ := h
  have kin := e0.mod.kin.keeps fun b o e => (e0.bs b o e).1
  unfold fnDfl at h
  by_cases hl : ds.length + 1 = ps.length
  · rw [if_pos hl] at h
    have ul : us.length = n := by rw [← r.length, ← rs.length]; omega
    obtain ⟨u1, hu1, ru1⟩ : ∃ u1, ds1 = [u1] ∧ L2.RelV dv u1 := by
      cases v1 with
      | cons ru rr =>
        cases rr
        exact ⟨_, rfl, ru⟩
    subst hu1
    have b := b1 s us kin (by rw [List.length_append, ul]; exact en)
    exact ok.run A outer s H ⟨us, []⟩ (us ++ [u1]) (vs ++ [dv]) Q E hr e0 b (r.append (.cons ru1 .nil)) ⟨mu, xi, ds ++ [dd], st, rs.append (.cons (hd _) .nil), c, h⟩
  · rw [if_neg hl] at h
    have ul : us.length = ps.length := by
      rw [← r.length]
      exact ok.len _ _ _ _ ⟨mu, xi, ds, st, rs, c, h⟩
    have z0 : ds0 = [] := by
      cases v0
      rfl
    subst z0
    have b := b0 s us kin (by rw [List.append_nil]; exact ul)
    rw [List.append_nil] at b
    exact ok.run A outer s H ⟨us, []⟩ us vs Q E hr e0 b r ⟨mu, xi, ds, st, rs, c, h⟩
end ND
end
noncomputable section
namespace ND
open PySem L2 PyProof.Rows
section
variable {X : Cx} {Wx : WX} {fe e : Expr} {es : List Expr} {mf : M D} {ms : M (List D)} {pos p : Pos}
theorem FnD.runC {lv : Nat} {f : Addr} {F : DF} (G : FnD X.prog X.w X.K X.mg X.base lv f F) (hr : Room lv X.A) (tk : Takes X Wx) {pins : List (Addr × Obj)} {s : Shared} {σ : L2.St} {w : Wd} {st : Sto} {ds : List D} {vs : List V} {us : List Value} {Q : VK} (I : Inv X pins σ w.H s)
    (c : Corr X.K w st) (r : Rels X.K w ds vs) (rv : Vals vs us) (h : Post X.K (Rel X.K) w σ Wx Q (F ds st)) : codeAny (model X.prog X.w) X.A (.call (.ref f) ⟨us, []⟩) (fun r s' => match r with
      | .ok (.ret v) => EP X pins σ Q v s'
      | .ok _ => False
      | .error e => X.xe e s') s := by
  have hx : PassesAt (L2.CX X.prog X.w) X σ (WE Wx σ) := passAt tk σ
  refine codeAny_mono (G.ex X.A X.stack s w.H us vs Q (WE Wx σ) hr I.env0 rv ⟨w.mu, w.xi, ds, st, r, c, ?_⟩) fun r s' hq => ?_
  rotate_left
  · cases r with
    | error e => exact hx pins w.H s e s' I hq
    | ok fl =>
      cases fl with
      | ret u => exact I.after hq
      | next => exact False.elim hq
      | brk => exact False.elim hq
      | cont => exact False.elim hq
  cases e : F ds st with
  | ok d st' => rw [e] at h; exact h
  | exc k fs xs st' => rw [e] at h; exact h
  | bad => rw [e] at h; exact h
/-- the class's own __call__ is a plain def -/
def callB (K : PySem.W.Frag) (C : Addr) : Bool := match PySem.W.findIn K (.ref C) "__call__" with
  | some (some (.ref f)) => PySem.W.fnIn K f
  | _ => false
def ClOk (X : Cx) (bt : BT) : Prop := ∀ k F, bfind bt k = some F → callB X.K (gaS X.K k) = true ∧ ∃ lv, Room lv X.A ∧ SpcD X.prog X.w X.K X.mg X.base lv k "__call__" F
theorem ClOk.nil : ClOk X [] := fun k F h => by cases h
theorem ClOk.cons {lv : Nat} {k : String} {F : DF} {bt : BT} (hr : Room lv X.A) (h : SpcD X.prog X.w X.K X.mg X.base lv k "__call__" F) (b : callB X.K (gaS X.K k) = true) (t : ClOk X bt) : ClOk X ((k, F) :: bt) := fun k' F' h' => by
  unfold bfind at h'
  split at h'
  · rename_i e
    cases h'
    rw [← e]
    exact ⟨b, lv, hr, h⟩
  · exact t k' F' h'
def eCallI (bt : BT) (mf : M D) (ms : M (List D)) : M D := fun env st => (mf env st).bind fun d s1 => match insD s1 d with
  | some _ => (ms env s1).bind fun ds s2 => (match insD s2 d with
    | some (k, _, _) => (match bfind bt k with
      | some F => F (d :: ds) s2
      | none => .bad)
    | none => .bad)
  | none => .bad
theorem ce_callI {bt : BT} (hb : ClOk X bt) (tk : Takes X Wx) (hf : CE X Wx fe mf) (ha : CA X Wx (e :: es) ms)
    (ht : eval (.Call fe (e :: es) [] pos) X.env = (do callWith pos (← eval fe X.env) [] (backTo pos (starEach (e :: es) X.env)) (backToKw pos (keywordEach [] X.env))) := by rfl)
    (he : starEach (e :: es) X.env = (false, eval e X.env) :: starEach es X.env := by rfl) (hpl : (backTo pos (starEach es X.env)).any (·.1) = false := by rfl) : CE X Wx (.Call fe (e :: es) [] pos) (eCallI bt mf ms) := by
  refine ⟨fun pins s σ H Q I h => ?_⟩
  obtain ⟨mu, xi, env, st, re, c, h⟩ := h
  refine Call_ (thn (hf.run pins s σ H _ I (tG_bind (R := Rel X.K) re c h)) fun u s1 ⟨x, H1, I1, rx, mu1, xi1, d, st1, l1, r1, c1, re1, p1⟩ => ?_) ht
  split at p1
  · rename_i kk e1
    obtain ⟨k0, fs0, xs0⟩ := kk
    obtain ⟨a1, dx0, gs0, ea, _, _, _⟩ := insD_ok c1 r1 e1
    subst ea
    obtain rfl : u = Value.ref a1 := rx
    refine StX.callO_with (thn (ha.run pos pins s1 σ H1 _ I1 (tG_bind (R := Rels X.K) re1 c1 p1)) fun us s2 ⟨vs, H2, I2, rv, mu2, xi2, ds, st2, l2, r2, c2, re2, p2⟩ => ?_) he hpl
    split at p2
    · rename_i k fs xs e2
      split at p2
      · rename_i F e3
        obtain ⟨a2, dx, gs, ea, q, _, _⟩ := insD_ok c2 (r1.le l2) e2
        cases ea
        obtain ⟨hcb, lv, hr, B⟩ := hb k F e3
        obtain ⟨g, hs, hfn, G⟩ := B.ex
        obtain ⟨od, J⟩ := inst_of I2 q
        have hfi : PySem.W.fnIn X.K g = true := by
          unfold callB at hcb
          rw [show PySem.W.findIn X.K (.ref (gaS X.K k)) "__call__" = some (some (.ref g)) from hs] at hcb
          exact hcb
        refine ⟨⟨_, _, _, J, rfl⟩, ?_⟩
        have := G.runC (w := ⟨H2, mu2, xi2⟩) (us := .ref a1 :: us) (vs := .ref a1 :: vs) (ds := d :: ds) hr tk I2 c2 (.cons (r1.le l2) r2) (.cons rfl rv) p2
        exact wpAny_call (PySem.W.kco_code I2.kIn J rfl hs hfn hfi this)
      · exact p2.elim
    · exact p2.elim
  · exact p1.elim
end
end ND
end
namespace ND
open PySem L2 PyProof.Rows NdefX
/-- what is known of a def that names __class__: its words, its cell (the class at D), its code -/
structure SupD (P : Program) (K : PySem.W.Frag) (F : NF) (f D : Addr) (fd : FuncData) : Prop where
  ex : ∃ (oc : Value) (od : Option Addr) (doc pm ctv : Value) (osl : Array (Option Value)), fd = F.fd doc pm ctv ∧ K.lookup f = some ⟨oc, od, .func fd, osl⟩ ∧ PySem.W.codeIn K (.ref F.c) F.qual = true
  cl : ∃ (cc : Addr) (ccl : Value) (ccd : Option Addr) (csl : Array (Option Value)), F.cl = [(("__class__" : Str), cc)] ∧ K.lookup cc = some ⟨ccl, ccd, .cell (some (.ref D)), csl⟩
  code : ∃ (ccl : Value) (cdd : Option Addr) (vs : Array Value) (ccs : Array (Option Value)) (file : Str) (tf : Tok), K.lookup F.c = some ⟨ccl, cdd, .fields vs, ccs⟩ ∧ vs[2]? = some (.str file tf) ∧ ((P.main.file : Str) == file) = true
  kp : PySem.W.keepIn K (.ref f) = true
  top : (P.main.scope.names.lookup ("super" : Str)).isSome = false
theorem SupD.cells {P : Program} {w : World} {K : PySem.W.Frag} {mg : Str → Option Value} {base : Heap} {F : NF} {f D : Addr} {fd : FuncData} {A : Around} {outer : List PySem.Env} {s : Shared} {H : Hp} (SD : SupD P K F f D fd) (e0 : Env0 P w K mg base A outer s H) : CellsAt F.cl ["__class__"] [none] s.heap H := by
  obtain ⟨cc, ccl, ccd, csl, e, lk⟩ := SD.cl
  have eb := e0.mod.kin _ _ lk
  have look : ∀ y c, F.cl.lookup y = some c → y = ("__class__" : Str) ∧ c = cc := fun y c h => by
    rw [e] at h
    simp only [List.lookup] at h
    split at h
    · rename_i hy
      exact ⟨beq_iff_eq.mp hy, (Option.some.inj h).symm⟩
    · cases h
  refine ⟨rfl, fun y c h => ?_, fun x y c h1 h2 => (look x c h1).1.trans (look y c h2).1.symm, fun i y h => ?_⟩
  · obtain ⟨_, rfl⟩ := look y c h
    exact ⟨(e0.bs _ _ eb).2, _, _, (e0.bs _ _ eb).1, rfl⟩
  · cases i with
    | zero =>
      have hy : y = ("__class__" : Str) := by simpa using h.symm
      subst hy
      exact ⟨cc, by rw [e]; rfl, fun v hv => by cases hv⟩
    | succ i => simp at h
theorem sup_ok {CX : CXT} {P : Program} {w : World} {K : PySem.W.Frag} {mg : Str → Option Value} {base : Heap} {N ps : List Str} {F : NF} {f D : Addr} {fd : FuncData} {k : Nat} {sp : Sp} (S : NScope N ps ["__class__"] F.scope) (SD : SupD P K F f D fd) (len : ∀ vs H Q E, sp vs H Q E → vs.length = ps.length)
    (hbody : ∀ (A : Around) (outer : List PySem.Env) (s : Shared) (H : Hp) (vs : List V) (Q : VK) (E : XK), Room k (A.deeper (envF F f s.heap.objs.size)) → sp vs H Q E → ∀ s1 : Shared, Inv (ncx CX P w K mg base N F f A outer s H E) [] (startF N vs [none]) H s1 →
      PySem.wpAt (model P w) (A.deeper (envF F f s.heap.objs.size)) (.func F.body (envF F f s.heap.objs.size)) (execs F.body (envF F f s.heap.objs.size)) (SP (ncx CX P w K mg base N F f A outer s H E) [] { nx := fun _ H' => Q .non H', rt := Q }) (ncx CX P w K mg base N F f A outer s H E).xe s1) :
    FnOk P w K mg base CX (k + 1) f fd ps sp := by
  obtain ⟨oc, od, doc, pm, ctv, osl, rfl, lk, hcd⟩ := SD.ex
  refine ⟨len, fun A outer s H args us vs Q E hr e0 hb r hsp => ?_⟩
  have hl := len _ _ _ _ hsp
  have KX : K.In s.heap := e0.mod.kin.keeps fun b o e => (e0.bs b o e).1
  have lim : s.heap.NoLimit := e0.mod.nolimit.keeps fun b o e => (e0.bs b o e).1
  refine codeAny_call_function hr.depth (KX _ _ lk) rfl S.co S.gen rfl (PySem.W.codeRec_of KX hcd) (hb _ _ _ _ ?_)
  refine wpAny_newFunctionEnv S.nocell (fun ⟨n, _⟩ hy => S.par n (List.of_mem_zip hy).1) (fun h₁ hns hsb => ⟨lim.fresh _ hsb, ?_⟩) S.kind
  show codeAny _ _ (.func F.body (envF F f s.heap.objs.size)) _ _
  refine PySem.ks_codeAny_funcAt ?_
  have kp : ∀ b o, s.heap.get? b = some o → h₁.get? b = some o := fun b o e => hsb.extBut b o (Nat.ne_of_lt (Heap.lt_size e)) (Heap.get?_push_of_some _ e)
  have I : Inv (ncx CX P w K mg base N F f A outer s H E) [] (startF N vs [none]) H { s with heap := h₁, toks := s.toks + (ps.zip us).length } := inv_startN S hr.hd e0 hl r (SD.cells e0) hns kp
  refine PySem.ks_wpAt_mono (hbody A outer s H vs Q E (hr.deeper _) hsp _ I) (fun fl s' hs => ?_) fun e s' hs => hs
  have fin : ∀ {σ' : L2.St} {H' : Hp} {v : V} {u : Value}, Inv (ncx CX P w K mg base N F f A outer s H E) [] σ' H' s' → L2.RelV v u → Q v H' → L2.CE outer P w H s Q u s' :=
    fun {σ' H' v u} J rv q => ⟨v, H', J.os, J.bare, J.base, J.hok, rv, q⟩
  cases fl with
  | ret u =>
    obtain ⟨v, σ', H', J, rv, q⟩ := hs
    exact fin J rv q
  | next =>
    obtain ⟨σ', H', J, q⟩ := hs
    exact fin (v := V.non) (u := Value.none) J rfl q
  | brk =>
    obtain ⟨_, _, _, q⟩ := hs
    exact False.elim q
  | cont =>
    obtain ⟨_, _, _, q⟩ := hs
    exact False.elim q
/-! ### super().__init__(..) of an own exception -/
section
variable {prog : Program} {w : World} {A : Around} {E : Value → Shared → Prop} {h : Heap} {g : Array GenState} {d : Drawn} {t : Nat} {os : OsState}
variable {nm q : Str} {C N : Addr} {bs bm : List Value} {hdct : Bool} {sn : List Str} {sub : List Value} {ab : Bool} {col : Option Bool} {dd : Option Addr} {k0 k1 k2 k3 k5 : Option Value}
abbrev veW (x : Addr) : Obj := PySem.W.kxs_mw "ValueError.__init__" x
/-- the wrapper called -/
theorem call_veW {u e t0 : Addr} {rest : List Value} {Q : Value → Shared → Prop}
    (hC : h.get? C = some (excClassObj nm q C N bs bm hdct sn sub ab col dd k0 k1 k2 k3 k5 "ValueError.__new__")) (he : h.get? e = some (HandSPX.excO C t0)) (hu : h.get? u = some (veW e)) (hrest : rest.length ≤ sizeLine)
    (hq : ∀ h' t1, (∀ b o, b ≠ e → h.get? b = some o → h'.get? b = some o) → h'.get? e = some (HandSPX.excO C t1) → Q .none ⟨h', g, d, t, os⟩) :
    wpAny (model prog w) A (call (.ref u) rest) Q E ⟨h, g, d, t, os⟩ := by
  refine wpAny_call (codeAny_of_tree ?_)
  show wpAny _ A.in1 (callAny (.ref u) ⟨rest, []⟩) _ _ _
  simp only [callAny]
  refine wpAny_bind (wpAny_load hu ?_)
  simp only [veW, PySem.W.kxs_mw, show (Value.type "method-wrapper" == Value.type "method" || Value.type "method-wrapper" == Value.type "builtin_function_or_method" || Value.type "method-wrapper" == Value.type "method-wrapper") = true by decide, if_true]
  refine PySem.W.KFB.if_so (by decide) ?_
  refine wpAny_bind (PySem.ESX.check_bound PySem.F.excBase_ValueError hC he rfl ?_)
  refine wpAny_bind (wpAny_pure (wpAny_pure ?_))
  refine ⟨Code.quiet_builtin _ (by decide +kernel), codeAny_builtin PySem.F.excBase_ValueError.initEntry ?_⟩
  rw [Around.under_plainId PySem.F.excBase_ValueError.init.plain _]
  wp_walk
  refine hq _ h.objs.size (fun b o hb ho => ?_) ?_
  · rw [Heap.get?_update_other _ _ (Ne.symm hb)]
    exact Heap.get?_push_of_some _ ho
  · rw [Heap.get?_update_self _ (Heap.get?_push_of_some _ he) rfl]
    rfl
end
section
variable {X : Cx} {F : NF} {f a C L : Addr} {fd : FuncData} {ta : TA} {e : Expr} {p0 p1 p2 pos pos' : Pos} {pins : List (Addr × Obj)} {σ : L2.St} {H : Hp} {s : Shared} {Dn : Ends} {ar : Arg}
/-- what the class must have -/
structure SupC (K : PySem.W.Frag) (C : Addr) : Prop where
  ox : OexC K C
  sup : PySem.W.ks_superIn K C C "__init__" = some (some (.builtin "ValueError.__init__"))
  sub : PySem.W.mroIn K C (.ref C) = some true
  ve : PySem.W.subIn K (.ref C) (.type "ValueError") = some true
  opq : PySem.W.nsIn K cStatics "thirdparty.any" = some none
theorem sup_init {pl : Sem Bool} (hE : X.env = envF F f L) (SD : SupD X.prog X.K F f C fd) (T : SupC X.K C) (hms : X.mg "super" = none)
    (hks : F.scope.names.lookup ("super" : Str) = some .globalImplicit) (hkc : F.scope.names.lookup ("__class__" : Str) = some .free) (hp : (F.params.posonlyargs ++ F.params.args).head? = some ar) (hN : X.N[0]? = some ar.arg) (hka : F.scope.names.lookup ar.arg = some .local)
    (ha : PA X [e] ta) (I : Inv X pins σ H s) (h0 : σ[0]? = some (some (.ref a))) (hx : H a = some (exo a C none))
    (hs : swapsWith (.Call (.Attribute (.Call (.Name "super" p0) [] [] p1) "__init__" p2) [e] [] pos) none pos'.line X.env = pure false)
    (he : eval (.Call (.Attribute (.Call (.Name "super" p0) [] [] p1) "__init__" p2) [e] [] pos) X.env = (do
      let ov ← attributeBase (.Call (.Name "super" p0) [] [] p1) "__init__" X.env (eval (.Call (.Name "super" p0) [] [] p1) X.env)
      standAt p2.atName
      let (f, first) ← holding [ov] (getMethod ov "__init__" pl)
      callWith pos f first (backTo pos (starEach [e] X.env)) []))
    (hst : starEach [e] X.env = (false, eval e X.env) :: starEach [] X.env) (hpl : (backTo pos (starEach [] X.env)).any (·.1) = false)
    (h : ta σ H fun vs H1 => vs.length ≤ 1000 ∧ H1 a = some (exo a C none) ∧ Dn.nx σ H1) :
    PySem.wpAt (model X.prog X.w) X.A (.func F.body X.env) (exec (.Expr (.Call (.Attribute (.Call (.Name "super" p0) [] [] p1) "__init__" p2) [e] [] pos) pos') X.env) (SP X pins Dn) X.xe s := by
  obtain ⟨oc, od, doc, pm, ctv, osl, rfl, lk, hcd⟩ := SD.ex
  obtain ⟨cc, ccl, ccd, csl, ecl, lkc⟩ := SD.cl
  obtain ⟨xcl, xcd, xvs, xcs, file, tf, lkx, hvs, hfile⟩ := SD.code
  obtain ⟨nm, q, N, bs, bm, sn, sub, ab, col, dd, k0, k1, k2, k3, k5, hC, hbm⟩ := T.ox.cls
  have KX := I.kIn
  have kE : ∀ x, X.env.kindOf x = F.scope.names.lookup x := fun x => by rw [hE] <;> rfl
  have kk : X.env.scope.kind = .function := I.ok.kind
  obtain ⟨t1, ho⟩ := exo_at I.hok hx
  have hCo := KX _ _ hC
  have hcls : PySem.W.clsIn X.K C = some { name := nm, bases := bs, mro := .ref C :: bm, ns := N, qualname := q, hasDict := true, slotNames := sn, subclasses := sub, abstract := ab, collection := col, hasDel := false } := by unfold PySem.W.clsIn; rw [hC] <;> rfl
  refine PySem.ks_wpAt_Expr_any (PySem.ks_wpAt_MethodCall (PySem.ks_wpAt_super_base (env := X.env) (f := f) (cc := F.c) ((kE _).trans hks) ((kE _).trans hkc) rfl (by rw [hE] <;> rfl) (KX _ _ lk) rfl hp (by rw [hE] <;> rfl) (KX _ _ lkx) rfl hvs hfile SD.top ?_) he) I.quiet hs
  obtain ⟨mb, h1, h2⟩ := I.mod.blt
  refine PySem.W.ks_loadName_global kk ((kE _).trans hks) (Calls.loadGlobal_builtin (by rw [I.ok.glob]; exact I.mod.glob.keeps I.bk) hms (by rw [I.ok.blt]; exact h1.keeps I.bk) ((h2 _ (by decide)).trans (show bootBuiltins "super" = some (.type "super") by decide +kernel)) ⟨rfl, ?_⟩)
  refine wpAny_loadName_free kk ((kE _).trans hkc) (c := cc) (by rw [hE]; show F.cl.lookup _ = _; rw [ecl] <;> rfl) ⟨_, KX _ _ lkc, rfl⟩ ?_
  obtain ⟨m, hns, hl⟩ := I.loc
  obtain ⟨u, ru, lu⟩ := hl 0 ar.arg _ hN h0 (.inl ((kE _).trans hka))
  obtain rfl : u = Value.ref a := ru
  rcases lu with ⟨_, lu⟩ | ⟨lu, _⟩
  rotate_left
  · rw [kE, hka] at lu
    rcases lu with lu | lu <;> cases lu
  refine wpAny_loadName_local kk ((kE _).trans hka) hns lu ?_
  refine PySem.ks_wpAny_isType_cls hCo rfl ⟨rfl, ?_⟩
  obtain ⟨hp0, g, dr, tk, os⟩ := s
  refine PySem.ks_wpAny_call_super hCo rfl ho rfl (fun c z => by cases z) (PySem.W.looks_mroIn KX T.sub) (fun h' eso k => ?_)
  have I2 : Inv X pins σ H ⟨h', g, dr, tk, os⟩ := I.kept (t' := tk) k
  have ho2 := k _ _ ho
  have inst : PySem.W.InstAt h' a { cls := .ref C, dict := none, data := .fields #[.ref t1, .none, .none, .none, .bool false, .none] } C none := ⟨ho2, rfl, rfl, trivial⟩
  have hI : PySem.W.Looks (model X.prog X.w) h' (isInstance (.ref a) (.type "ValueError")) true := inst.type.andThen (PySem.W.looks_subIn I2.kIn T.ve)
  have hm : PySem.W.alongIn X.K "__init__" (((Value.ref C :: bm).dropWhile (· != .ref C)).drop 1) = some (some (.builtin "ValueError.__init__")) := by
    have := T.sup
    unfold PySem.W.ks_superIn at this
    rw [hcls] at this
    exact this
  refine PySem.W.kxs_getMethod PySem.W.kxs_ValueError eso (PySem.W.looks_opaque I2.kIn T.opq) (l₀ := .ref C :: bm) (fun A Q E s k q => wpAny_bind ((PySem.W.looks_clsIn I2.kIn hcls) A _ E s k (wpAny_pure q))) rfl I2.kIn hm hI (PySem.W.ks_ne I2.kIn inst hcls) rfl ?_
  have kp : ∀ b o, h'.get? b = some o → (h'.push (veW a)).get? b = some o := fun b o e => Heap.get?_push_of_some _ e
  have hu : (h'.push (veW a)).get? h'.objs.size = some (veW a) := Heap.get?_push_at rfl rfl
  have I3 : Inv X pins σ H ⟨h'.push (veW a), g, dr, tk + 1, os⟩ := I2.kept (t' := tk + 1) kp
  have hun : H h'.objs.size = none := I2.hok.fresh (Nat.le_refl _)
  have I4 : Inv X (pins ++ [(h'.objs.size, veW a)]) σ H ⟨h'.push (veW a), g, dr, tk + 1, os⟩ := I3.pins_of fun p hp => by
    rcases List.mem_append.mp hp with hp | hp
    · exact I3.pin p (List.mem_append_right _ hp)
    · rw [List.mem_singleton.mp hp]
      exact ⟨hu, hun, fun z => absurd I2.lt (by rw [show X.env.locals = h'.objs.size from z.symm]; exact Nat.lt_irrefl _), I2.nofs (Nat.le_refl _), fun v z => by cases z⟩
  rw [hst]
  refine PySem.W.kxs_callWith (i := "ValueError.__init__") (x := a) (by show (false || (backTo pos (starEach [] X.env)).any (·.1)) = false; rw [hpl]; rfl) (Calls.evalArgs_plain ?_)
  show wpAny _ _ (spliced (backTo pos ((false, eval e X.env) :: starEach [] X.env))) _ _ _
  rw [← hst]
  refine thn (ha.run pos (pins ++ [(h'.objs.size, veW a)]) _ σ H _ I4 h) fun us s1 ⟨vs, H1, I5, r1, hz, hx1, q⟩ => ⟨?_, ?_⟩
  · exact (I5.pin _ (List.mem_append_right _ (List.mem_append_right _ (List.mem_singleton.mpr rfl)))).1
  · have hu5 : s1.heap.get? h'.objs.size = some (veW a) := (I5.pin _ (List.mem_append_right _ (List.mem_append_right _ (List.mem_singleton.mpr rfl)))).1
    obtain ⟨t5, ho5⟩ := exo_at I5.hok hx1
    have I6 : Inv X pins σ H1 s1 := I5.unpinned
    obtain ⟨hp5, g5, dr5, tk5, os5⟩ := s1
    refine call_veW (I6.kIn _ _ hC) ho5 hu5 (by show us.length ≤ sizeLine; rw [← Paired.length r1, sizeLine_eq]; omega) fun h6 t6 k6 hx6 => ?_
    have J := I6.write (t' := tk5) (x := a) (e := a) (o := exo a C none) (by rw [hx1]; exact True.intro) (.inl rfl) k6 ⟨_, hx6⟩ (exo_ok hx6)
    have eu : upd H1 a (exo a C none) = H1 := by
      funext b
      by_cases hb : b = a
      · rw [hb, upd_same, hx1]
      · rw [upd_ne hb]
    rw [eu] at J
    exact ⟨σ, H1, J, q⟩
end
end ND
namespace ND
open PySem L2 PyProof.Rows NdefX
noncomputable section
/-- the text can be made -/
def txt (m : M D) (ds : List D) : Prop := ∃ z : Str, ∀ st : Sto, m (none :: (ds.map some ++ [none])) st = .ok (.str z) st
/-- what such an __init__ promises -/
def spX (K : PySem.W.Frag) (C : Addr) (nms : List Str) (m : M D) : Sp := fun vs H Q _ => ∃ (a : Addr) (us : List V) (H0 : Hp) (mu xi : List Addr) (ds : List D) (st : Sto), vs = .ref a :: us ∧ us.length = nms.length ∧ H0 a = none ∧ H = upd H0 a (exo a C none) ∧
  Rels K ⟨H0, mu, xi⟩ ds us ∧ Corr K ⟨H0, mu, xi⟩ st ∧ txt m ds ∧ ∀ (w2 : Wd) (d : Addr), (⟨upd H0 a (exo a C none), mu, a :: xi⟩ : Wd).Le w2 → Corr K w2 st → w2.H d = none → d ≠ a → Q .non (upd (upd w2.H d (exd d (nms.zip us).reverse)) a (exo a C (some d)))
theorem upd_sw {H : Hp} {d a : Addr} {x y z : HO} (h : d ≠ a) : upd (upd (upd H d x) a y) d z = upd (upd H d z) a y := by
  funext b
  by_cases h1 : b = d
  · subst h1
    rw [upd_same, upd_ne h, upd_same]
  · rw [upd_ne h1]
    by_cases h2 : b = a
    · subst h2
      rw [upd_same, upd_same]
    · rw [upd_ne h2, upd_ne h2, upd_ne h1, upd_ne h1]
theorem hideW {K : PySem.W.Frag} {H0 : Hp} {mu xi : List Addr} {st : Sto} {a : Addr} {o : HO} (c : Corr K ⟨H0, mu, xi⟩ st) (hn : H0 a = none) : (⟨H0, mu, xi⟩ : Wd).Sub ⟨upd H0 a o, mu, a :: xi⟩ ∧ Corr K ⟨upd H0 a o, mu, a :: xi⟩ st := by
  have nm : a ∉ mu := fun h => by
    obtain ⟨u, e⟩ := c.here (w := ⟨H0, mu, xi⟩) h
    have e : H0 a = some u := e
    rw [hn] at e
    cases e
  have sb : (⟨H0, mu, xi⟩ : Wd).Sub ⟨upd H0 a o, mu, a :: xi⟩ := ⟨fun b u e => by
    obtain ⟨h1, h2, h3⟩ := Wd.fr_some.mp e
    have h3 : H0 b = some u := h3
    have hb : b ≠ a := fun z => by rw [z, hn] at h3; cases h3
    exact Wd.fr_some.mpr ⟨h1, fun z => (List.mem_cons.mp z).elim hb h2, (upd_ne hb).trans h3⟩, List.prefix_rfl⟩
  refine ⟨sb, c.nd, c.len, fun b hb z => ?_, fun b hb => ?_, fun n b u hn2 hs => ?_⟩
  · rcases List.mem_cons.mp z with rfl | z
    · exact nm hb
    · exact c.apart b hb z
  · rcases List.mem_cons.mp hb with rfl | hb
    · exact ⟨o, upd_same⟩
    · obtain ⟨u, e⟩ := c.hid b hb
      have e : H0 b = some u := e
      exact ⟨u, (upd_ne fun z => by rw [z, hn] at e; cases e).trans e⟩
  · obtain ⟨v, e, r⟩ := c.obj n b u hn2 hs
    have e : H0 b = some v := e
    exact ⟨v, (upd_ne fun z => by rw [z, hn] at e; cases e).trans e, RelO.sub sb r⟩
/-- behind the raise: the exception let go, its dict frozen -/
theorem freeW {K : PySem.W.Frag} {H0 : Hp} {mu xi : List Addr} {st : Sto} {a d : Addr} {o : HO} {w2 : Wd} {y : HO} (c : Corr K ⟨H0, mu, xi⟩ st) (hn : H0 a = none) (l : (⟨upd H0 a o, mu, a :: xi⟩ : Wd).Le w2) (c2 : Corr K w2 st) (hd : w2.H d = none) (hda : d ≠ a) {H3 : Hp} (e3 : ∀ b, H3 b = if b = d then some y else if b = a then none else w2.H b) (hmu : w2.mu = mu) :
    (⟨H0, mu, xi⟩ : Wd).Le ⟨H3, mu, xi⟩ ∧ Corr K ⟨H3, mu, xi⟩ st ∧ (⟨H3, mu, xi⟩ : Wd).fr d = some y := by
  have hx2 : w2.xi = a :: xi := l.xi
  have dm : d ∉ w2.mu := fun h => by
    obtain ⟨u, e⟩ := c2.here h
    rw [hd] at e
    cases e
  have dx : d ∉ w2.xi := fun h => by
    obtain ⟨u, e⟩ := c2.hid d h
    rw [hd] at e
    cases e
  have s1 := (hideW (o := o) c hn).1
  have kp : ∀ b u, w2.fr b = some u → (⟨H3, mu, xi⟩ : Wd).fr b = some u := fun b u e => by
    obtain ⟨h1, h2, h3⟩ := Wd.fr_some.mp e
    have hb : b ≠ d := fun z => by rw [z, hd] at h3; cases h3
    have ha : b ≠ a := fun z => h2 (by rw [hx2, z]; exact List.mem_cons_self)
    refine Wd.fr_some.mpr ⟨by rw [← hmu]; exact h1, fun z => h2 (by rw [hx2]; exact List.mem_cons_of_mem _ z), ?_⟩
    show H3 b = some u
    rw [e3, if_neg hb, if_neg ha]
    exact h3
  have s2 : w2.Sub ⟨H3, mu, xi⟩ := ⟨kp, by rw [hmu]; exact List.prefix_rfl⟩
  refine ⟨⟨s1.trans (l.sub.trans s2), rfl, fun b hb => ?_⟩, ⟨c.nd, c.len, c.apart, fun b hb => ?_, fun n b u h1 h2 => ?_⟩, ?_⟩
  · obtain ⟨u, e⟩ := c.hid b hb
    have e : H0 b = some u := e
    have ha : b ≠ a := fun z => by rw [z, hn] at e; cases e
    have hb2 : b ≠ d := fun z => dx (by rw [← z, hx2]; exact List.mem_cons_of_mem _ hb)
    have := l.hid b (List.mem_cons_of_mem _ hb)
    show H3 b = H0 b
    rw [e3, if_neg hb2, if_neg ha, this]
    exact upd_ne ha
  · obtain ⟨u, e⟩ := c.hid b hb
    have e : H0 b = some u := e
    have ha : b ≠ a := fun z => by rw [z, hn] at e; cases e
    have hb2 : b ≠ d := fun z => dx (by rw [← z, hx2]; exact List.mem_cons_of_mem _ hb)
    have := l.hid b (List.mem_cons_of_mem _ hb)
    refine ⟨u, ?_⟩
    show H3 b = some u
    rw [e3, if_neg hb2, if_neg ha, this]
    exact (upd_ne ha).trans e
  · obtain ⟨v, e, r⟩ := c2.obj n b u (by rw [hmu]; exact h1) h2
    have hm : b ∈ w2.mu := by rw [hmu]; exact List.mem_of_getElem? h1
    have hb2 : b ≠ d := fun z => dm (z ▸ hm)
    have ha : b ≠ a := fun z => c2.apart b hm (by rw [hx2, z]; exact List.mem_cons_self)
    refine ⟨v, ?_, RelO.sub s2 r⟩
    show H3 b = some v
    rw [e3, if_neg hb2, if_neg ha]
    exact e
  · refine Wd.fr_some.mpr ⟨by rw [← hmu]; exact dm, fun z => dx (by rw [hx2]; exact List.mem_cons_of_mem _ z), ?_⟩
    show H3 d = some y
    rw [e3, if_pos rfl]
/-- a raise's class: what is known of it, its __init__ -/
structure XiD (P : Program) (w : World) (K : PySem.W.Frag) (mg : Str → Option Value) (base : Heap) (lv : Nat) (k : String) (nms : List String) (m : M D) : Prop where
  gl : mg (Str.ofString k) = some (.ref (gaS K k))
  ox : OexC K (gaS K k)
  ex : ∃ (fI : Addr) (fd : FuncData) (ps : List Str), PySem.W.findIn K (.ref (gaS K k)) "__init__" = some (some (.ref fI)) ∧ PySem.W.typeIn K (.ref fI) = some (.type "function") ∧ FnOk P w K mg base (L2.CX P w) lv fI fd ps (spX K (gaS K k) (nms.map Str.ofString) m) ∧ Binds K fd ps []
def sRaiseX (k : String) (nms : List String) (m : M D) (ms : M (List D)) : MS := fun env st => (ms env st).toS env fun ds s1 => if Ok (ds.length = nms.length ∧ nms.length ≤ 1000 ∧ txt m ds) then .exc k nms.reverse ds.reverse env s1 else .bad
theorem zip_fst {α β : Type} : ∀ {xs : List α} {ys : List β}, ys.length = xs.length → (xs.zip ys).map (·.1) = xs
  | [], _, _ => by simp
  | x :: xs, [], h => by simp at h
  | x :: xs, y :: ys, h => by
    rw [List.zip_cons_cons, List.map_cons, zip_fst (by simpa using h)]
theorem zip_snd {α β : Type} : ∀ {xs : List α} {ys : List β}, ys.length = xs.length → (xs.zip ys).map (·.2) = ys
  | [], [], _ => rfl
  | [], y :: ys, h => by simp at h
  | x :: xs, [], h => by simp at h
  | x :: xs, y :: ys, h => by
    rw [List.zip_cons_cons, List.map_cons, zip_snd (by simpa using h)]
section
variable {X : Cx} {Wx : WX} {e : Expr} {es : List Expr} {ms : M (List D)} {pos pos' p : Pos}
theorem cs_raiseX {lv : Nat} {k : String} {kn : Str} {nms : List String} {m : M D} (T : XiD X.prog X.w X.K X.mg X.base lv k nms m) (hr : Room (lv + 1) X.A) (tk : Takes X Wx) (ha : CA X Wx (e :: es) ms) (en : kn = Str.ofString k := by rfl) (hc : X.calm = true := by rfl) (hg : Gl X kn := by rfl) (hdb : (kn == ("__debug__" : Str)) = false := by decide)
    (he : starEach (e :: es) X.env = (false, eval e X.env) :: starEach es X.env := by rfl) (hpl : (backTo pos (starEach es X.env)).any (·.1) = false := by rfl) :
    CS X Wx (.Raise (some (.Call (.Name kn p) (e :: es) [] pos)) none pos') (sRaiseX k nms m ms) := by
  subst en
  obtain ⟨fI, fd, ps, iC, tI, F1, hb⟩ := T.ex
  have hx : Passes (L2.CX X.prog X.w) X (fun _ _ _ => False) := passes_call tk fun _ _ _ _ z => z.elim
  refine PS.mono (ps_raise hc tk (pmk_oex T.ox iC tI F1 hr hb (.nil) hx hg T.gl ha hdb he hpl)) fun D σ H h => ?_
  obtain ⟨mu, xi, env, st, re, c, h⟩ := h
  refine tG_mono (tG_bindS (R := Rels X.K) re c h) fun vs H1 ⟨mu1, xi1, ds, st1, l1, r1, c1, re1, p1⟩ => ?_
  split at p1
  · rename_i hok
    obtain ⟨h1, h2, h3⟩ := hok
    have hl := r1.length
    refine ⟨by omega, fun a hn => ⟨a, vs, H1, mu1, xi1, ds, st1, by rw [List.append_nil], by rw [List.length_map]; omega, hn, rfl, r1, c1, h3, fun w2 d l2 c2 hd hda => ⟨rfl, d, ((nms.map Str.ofString).zip vs).reverse, upd_same, ?_, ?_, ?_⟩⟩⟩
    · rw [upd_ne hda, upd_same]
    · cases q : H1 d with
      | none => rfl
      | some u =>
        exfalso
        by_cases hm : d ∈ w2.mu
        · obtain ⟨v, e⟩ := c2.here hm
          rw [hd] at e
          cases e
        · by_cases hxi : d ∈ xi1
          · have := l2.hid d (List.mem_cons_of_mem _ hxi)
            rw [hd] at this
            have this : (none : Option HO) = upd H1 a (exo a (gaS X.K k) none) d := this
            rw [upd_ne hda, q] at this
            cases this
          · have hm1 : d ∉ mu1 := fun z => hm (l2.sub.mu.subset z)
            have := l2.sub.fr d u (Wd.fr_some.mpr ⟨hm1, fun z => (List.mem_cons.mp z).elim hda hxi, (upd_ne hda).trans q⟩)
            have := (Wd.fr_some.mp this).2.2
            rw [hd] at this
            cases this
    · have hmu : w2.mu = mu1 := by
        have e1 := l2.sub.mu.length_le
        have e2 := c2.len
        have e3 := c1.len
        exact (l2.sub.mu.eq_of_length (by show mu1.length = w2.mu.length; rw [← e2, ← e3])).symm
      obtain ⟨f1, f2, f3⟩ := freeW (d := d) (y := .xd ((nms.map Str.ofString).zip vs).reverse) c1 hn l2 c2 hd hda (H3 := upd (del (upd (upd w2.H d (exd d ((nms.map Str.ofString).zip vs).reverse)) a (exo a (gaS X.K k) (some d))) a) d (.xd ((nms.map Str.ofString).zip vs).reverse)) (fun b => by
        by_cases hb : b = d
        · rw [if_pos hb, hb, upd_same]
        · rw [if_neg hb, upd_ne hb]
          by_cases hba : b = a
          · rw [if_pos hba, hba, del_same]
          · rw [if_neg hba, del_ne hba, upd_ne hba, upd_ne hb]) hmu
      refine p1 ⟨_, mu1, xi1⟩ σ (some d) f1 (re1.le f1) f2 (.inr ⟨d, _, rfl, f3, ?_, ?_⟩)
      · rw [List.map_reverse, zip_fst (by rw [List.length_map]; omega), List.map_reverse]
      · rw [List.map_reverse, zip_snd (by rw [List.length_map]; omega)]
        exact Rels.reverse (r1.le f1)
  · exact p1.elim
end
end
end ND
namespace ND
open PySem L2 PyProof.Rows NdefX
noncomputable section
section
variable {P : Program} {w : World} {K : PySem.W.Frag} {mg : Str → Option Value} {base : Heap} {F : NF} {f C : Addr} {fd : FuncData} {self f1 f2 : Str} {e : Expr} {m : M D} {k : Nat} {p0 p1 p2 p3 p4 p5 p6 p7 p8 p9 p10 p11 p12 : Pos} {ar : Arg} {pl : Sem Bool}
/-- what the text of the super() statement must say (each by rfl) -/
structure SupE (e : Expr) (p0 p1 p2 p3 p4 : Pos) : Prop where
  sw : ∀ env, swapsWith (.Call (.Attribute (.Call (.Name "super" p0) [] [] p1) "__init__" p2) [e] [] p3) none p4.line env = pure false
  ev : ∃ pl : PySem.Env → Sem Bool, ∀ env, eval (.Call (.Attribute (.Call (.Name "super" p0) [] [] p1) "__init__" p2) [e] [] p3) env = (do
      let ov ← attributeBase (.Call (.Name "super" p0) [] [] p1) "__init__" env (eval (.Call (.Name "super" p0) [] [] p1) env)
      standAt p2.atName
      let (f, first) ← holding [ov] (getMethod ov "__init__" (pl env))
      callWith p3 f first (backTo p3 (starEach [e] env)) [])
  st : ∀ env, starEach [e] env = (false, eval e env) :: starEach [] env
  pn : ∀ env, (backTo p3 (starEach [] env)).any (·.1) = false
def okN (x : Str) : Bool := !(x == ("__debug__" : Str)) && !(x == ("__classdict__" : Str))
theorem okN1 {x : Str} (h : okN x = true) : (x == ("__debug__" : Str)) = false ∧ (x == ("__classdict__" : Str)) = false := by
  unfold okN at h
  simpa using h
theorem xinit {N : List Str} {ps : List Str} {rest : List Stmt} {nms : List Str} (hps : ps = self :: nms) (hNs : N = ps ++ [("__class__" : Str)]) (SD : SupD P K F f C fd) (T : SupC K C) (S : NScope N ps ["__class__"] F.scope) (hms : mg "super" = none)
    (hks : F.scope.names.lookup ("super" : Str) = some .globalImplicit) (hkc : F.scope.names.lookup ("__class__" : Str) = some .free) (hp : (F.params.posonlyargs ++ F.params.args).head? = some ar) (har : ar.arg = self)
    (hbd : F.body = .Expr (.Call (.Attribute (.Call (.Name "super" p0) [] [] p1) "__init__" p2) [e] [] p3) p4 :: rest) (se : SupE e p0 p1 p2 p3 p4)
    (hce : ∀ A outer s H E, CE (ncx (L2.CX P w) P w K mg base N F f A outer s H E) noW e m)
    (hrest : ∀ A outer s H E, ∃ t : TS, PSs (ncx (L2.CX P w) P w K mg base N F f A outer s H E) rest t ∧ ∀ (a : Addr) (us : List V) (H2 : Hp) (Q : VK), us.length = nms.length → H2 a = some (exo a C none) → (∀ d, H2 d = none → d ≠ a → Q .non (upd (upd H2 d (exd d (nms.zip us).reverse)) a (exo a C (some d)))) →
      t { nx := fun _ H' => Q .non H', rt := Q } (startF N (.ref a :: us) [none]) H2) :
    FnOk P w K mg base (L2.CX P w) (k + 1) f fd ps (spX K C nms m) := by
  refine sup_ok S SD (fun vs H Q E h => ?_) (fun A outer s H vs Q E hr hsp s1 I => ?_)
  · obtain ⟨a, us, _, _, _, _, _, rfl, hl, _⟩ := h
    rw [hps]
    simp [hl]
  · obtain ⟨a, us, H0, mu, xi, ds, st, rfl, hl, hn, rfl, rr, c, htx, hq⟩ := hsp
    obtain ⟨sb, c1⟩ := hideW (o := exo a C none) c hn
    have hst : startF N (.ref a :: us) [none] = some (.ref a) :: (us.map some ++ [none]) := by
      unfold startF
      rw [hNs, hps]
      simp [hl]
    have re : REnv K ⟨upd H0 a (exo a C none), mu, a :: xi⟩ (none :: (ds.map some ++ [none])) (startF N (.ref a :: us) [none]) := by
      rw [hst]
      have hdl := rr.length
      refine ⟨by simp [hdl], fun i d h => ?_⟩
      cases i with
      | zero => simp at h
      | succ i =>
        rw [List.getElem?_cons_succ] at h ⊢
        by_cases hi : i < ds.length
        · rw [List.getElem?_append_left (by simpa using hi), List.getElem?_map] at h
          rw [List.getElem?_append_left (by rw [List.length_map]; omega), List.getElem?_map]
          have rr2 : Rels K ⟨upd H0 a (exo a C none), mu, a :: xi⟩ ds us := Rels.sub sb ds us rr
          cases q : ds[i]? with
          | none => rw [q] at h; cases h
          | some d' =>
            rw [q] at h
            cases h
            obtain ⟨v, hv, rv⟩ := rr2.get q
            exact ⟨v, by rw [hv]; rfl, rv⟩
        · rw [List.getElem?_append_right (by rw [List.length_map]; omega), List.length_map] at h
          cases q : i - ds.length with
          | zero => rw [q] at h; simp at h
          | succ j => rw [q] at h; simp at h
    have pa : PA (ncx (L2.CX P w) P w K mg base N F f A outer s (upd H0 a (exo a C none)) E) [e] (tA K noW (aCons m aNil)) := ca_cons (hce _ _ _ _ _) ca_nil (se.st _)
    obtain ⟨pl, hev⟩ := se.ev
    obtain ⟨z, hz⟩ := htx
    have h0 : (startF N (.ref a :: us) [none])[0]? = some (some (.ref a)) := by rw [hst]; rfl
    obtain ⟨tr, hr2, hr3⟩ := hrest A outer s (upd H0 a (exo a C none)) E
    have goal : PySem.wpAt (model P w) (A.deeper (envF F f s.heap.objs.size)) (.func F.body (envF F f s.heap.objs.size)) (execs (.Expr (.Call (.Attribute (.Call (.Name "super" p0) [] [] p1) "__init__" p2) [e] [] p3) p4 :: rest) (envF F f s.heap.objs.size)) (SP (ncx (L2.CX P w) P w K mg base N F f A outer s (upd H0 a (exo a C none)) E) [] { nx := fun _ H' => Q .non H', rt := Q }) (ncx (L2.CX P w) P w K mg base N F f A outer s (upd H0 a (exo a C none)) E).xe s1 := by
      refine PySem.ks_wpAt_execs_cons (PySem.ks_wpAt_mono (sup_init (X := ncx (L2.CX P w) P w K mg base N F f A outer s (upd H0 a (exo a C none)) E) (L := s.heap.objs.size) (ar := ar) (a := a) (Dn := { nx := fun σ' H1 => σ' = startF N (.ref a :: us) [none] ∧ ∃ w2 : Wd, H1 = w2.H ∧ (⟨upd H0 a (exo a C none), mu, a :: xi⟩ : Wd).Le w2 ∧ Corr K w2 st, rt := fun _ _ => False }) rfl SD T hms hks hkc hp (by rw [har, hNs, hps]; rfl) (by rw [har]; exact S.par _ (by rw [hps]; exact List.mem_cons_self)) pa I h0 (upd_same) (se.sw _) (hev _) (se.st _) (se.pn _) ?_) (fun fl s' hs => ?_) fun _ _ z => z)
      · refine ⟨mu, a :: xi, _, st, re, c1, ?_⟩
        have ev : aCons m aNil (none :: (ds.map some ++ [none])) st = .ok [.str z] st := by
          rw [ev_aCons, hz]
          rfl
        rw [ev]
        intro w2 v l2 r2 c2
        have hx2 : w2.H a = some (exo a C none) := (l2.hid a List.mem_cons_self).trans upd_same
        have hv := r2.length
        exact ⟨by simp at hv; omega, hx2, rfl, w2, rfl, l2, c2⟩
      · cases fl with
        | next =>
          obtain ⟨σ', H', J, rfl, w2, rfl, l2, c2⟩ := hs
          have hx2 : w2.H a = some (exo a C none) := (l2.hid a List.mem_cons_self).trans upd_same
          exact PySem.wpAt_of_wpAny (hr2.run [] s' _ w2.H _ J (hr3 a us w2.H Q hl hx2 fun d hd hda => hq w2 d l2 c2 hd hda))
        | ret u =>
          obtain ⟨_, _, _, _, _, z⟩ := hs
          exact z.elim
        | brk =>
          obtain ⟨_, _, _, z⟩ := hs
          exact False.elim z
        | cont =>
          obtain ⟨_, _, _, z⟩ := hs
          exact False.elim z
    have e2 : execs F.body (envF F f s.heap.objs.size) = execs (.Expr (.Call (.Attribute (.Call (.Name "super" p0) [] [] p1) "__init__" p2) [e] [] p3) p4 :: rest) (envF F f s.heap.objs.size) := congrArg (fun b => execs b (envF F f s.heap.objs.size)) hbd
    rw [e2]
    exact goal
theorem rest1 {A : Around} {outer : List PySem.Env} {s : Shared} {H : Hp} {E : XK} (T : OexC K C) (S : NScope [self, f1, "__class__"] [self, f1] ["__class__"] F.scope) (o0 : okN self = true) (o1 : okN f1 = true) (no1 : PySem.W.findIn K (.ref C) f1 = some none)
    (hs1 : ∀ env, swapsWith (.Name f1 p7) (some (.Attribute (.Name self p5) f1 p6)) p8.line env = pure false) :
    ∃ t : TS, PSs (ncx (L2.CX P w) P w K mg base [self, f1, "__class__"] F f A outer s H E) [.Assign [.Attribute (.Name self p5) f1 p6] (.Name f1 p7) p8] t ∧ ∀ (a : Addr) (us : List V) (H2 : Hp) (Q : VK), us.length = [f1].length → H2 a = some (exo a C none) → (∀ d, H2 d = none → d ≠ a → Q .non (upd (upd H2 d (exd d ([f1].zip us).reverse)) a (exo a C (some d)))) →
      t { nx := fun _ H' => Q .non H', rt := Q } (startF [self, f1, "__class__"] (.ref a :: us) [none]) H2 := by
  have v0 : PE (ncx (L2.CX P w) P w K mg base [self, f1, "__class__"] F f A outer s H E) (.Name self p5) (tVar 0) := pe_var rfl (.inl (S.par _ (by simp))) (okN1 o0).1 (okN1 o0).2
  have v1 : PE (ncx (L2.CX P w) P w K mg base [self, f1, "__class__"] F f A outer s H E) (.Name f1 p7) (tVar 1) := pe_var rfl (.inl (S.par _ (by simp))) (okN1 o1).1 (okN1 o1).2
  refine ⟨_, pss_one (ps_ost v0 v1 (hs1 _)), fun a us H2 Q hl hx hq => ?_⟩
  match us, hl with
  | [y1], _ => exact ⟨y1, rfl, .ref a, rfl, a, C, rfl, T, no1, .inl ⟨hx, fun dx hn hne => hq dx hn hne⟩⟩
theorem rest2 {A : Around} {outer : List PySem.Env} {s : Shared} {H : Hp} {E : XK} (T : OexC K C) (S : NScope [self, f1, f2, "__class__"] [self, f1, f2] ["__class__"] F.scope) (o0 : okN self = true) (o1 : okN f1 = true) (o2 : okN f2 = true) (no1 : PySem.W.findIn K (.ref C) f1 = some none) (no2 : PySem.W.findIn K (.ref C) f2 = some none)
    (hs1 : ∀ env, swapsWith (.Name f1 p7) (some (.Attribute (.Name self p5) f1 p6)) p8.line env = pure false) (hs2 : ∀ env, swapsWith (.Name f2 p11) (some (.Attribute (.Name self p9) f2 p10)) p12.line env = pure false) :
    ∃ t : TS, PSs (ncx (L2.CX P w) P w K mg base [self, f1, f2, "__class__"] F f A outer s H E) [.Assign [.Attribute (.Name self p5) f1 p6] (.Name f1 p7) p8, .Assign [.Attribute (.Name self p9) f2 p10] (.Name f2 p11) p12] t ∧ ∀ (a : Addr) (us : List V) (H2 : Hp) (Q : VK), us.length = [f1, f2].length → H2 a = some (exo a C none) → (∀ d, H2 d = none → d ≠ a → Q .non (upd (upd H2 d (exd d ([f1, f2].zip us).reverse)) a (exo a C (some d)))) →
      t { nx := fun _ H' => Q .non H', rt := Q } (startF [self, f1, f2, "__class__"] (.ref a :: us) [none]) H2 := by
  have v0 : ∀ p, PE (ncx (L2.CX P w) P w K mg base [self, f1, f2, "__class__"] F f A outer s H E) (.Name self p) (tVar 0) := fun p => pe_var rfl (.inl (S.par _ (by simp))) (okN1 o0).1 (okN1 o0).2
  have v1 : PE (ncx (L2.CX P w) P w K mg base [self, f1, f2, "__class__"] F f A outer s H E) (.Name f1 p7) (tVar 1) := pe_var rfl (.inl (S.par _ (by simp))) (okN1 o1).1 (okN1 o1).2
  have v2 : PE (ncx (L2.CX P w) P w K mg base [self, f1, f2, "__class__"] F f A outer s H E) (.Name f2 p11) (tVar 2) := pe_var rfl (.inl (S.par _ (by simp))) (okN1 o2).1 (okN1 o2).2
  refine ⟨_, pss_cons (ps_ost (v0 _) v1 (hs1 _)) (pss_one (ps_ost (v0 _) v2 (hs2 _))), fun a us H2 Q hl hx hq => ?_⟩
  match us, hl with
  | [y1, y2], _ => exact ⟨y1, rfl, .ref a, rfl, a, C, rfl, T, no1, .inl ⟨hx, fun dx hn hne => ⟨y2, rfl, .ref a, rfl, a, C, rfl, T, no2, .inr ⟨dx, [(f1, y1)], upd_same, by rw [upd_ne hne, upd_same], by simp, by
      rw [upd_sw hne]
      exact hq dx hn hne⟩⟩⟩⟩
end
end
end ND
namespace ND
open PySem L2 PyProof.Rows PySem.W NdefX
/-- a def that names __class__ -/
structure DefS where
  at_ : Str × Option Str
  name : Str
  qual : Str
  params : Arguments
  body : List Stmt
  scope : Scope
  cname : Str
  wrap : Option String := none
/-- where its function stands: the class's attribute, or what a staticmethod (classmethod, property) there holds -/
def DefS.ad (K : Frag) (d : DefS) : Addr := match d.wrap with
  | none => He.fAd K d.at_
  | some T => He5.wf K (He.ga K d.at_.1) T (d.at_.2.getD "")
abbrev FnS : Type := Option (Str × Str × Arguments × FuncBody × Scope × Addr × Addr × Value × Value)
def fnS (K : Frag) (p : Addr) : FnS := match K.lookup p with
  | some ⟨_, _, .func fd, _⟩ => some (fd.name, fd.qualname, fd.params, fd.body, fd.scope, fd.globals, fd.builtins, fd.defaults, fd.kwdefaults)
  | _ => none
def DefS.val (d : DefS) : FnS := some (d.name, d.qual, d.params, .stmts d.body, d.scope, mainGlobals, builtinsNs, .none, .none)
def cellB (K : Frag) (x : Str) (cl : List (Str × Addr)) : Bool := match cl with
  | [(n, cc)] => decide (n = ("__class__" : Str)) && (match K.lookup cc with
    | some ⟨_, _, .cell (some (.ref D)), _⟩ => decide (D = He.ga K x)
    | _ => false)
  | _ => false
def fileB (K : Frag) (file : Str) (cd : Value) : Bool := match cd with
  | .ref c => (match K.lookup c with
    | some ⟨_, _, .fields vs, _⟩ => (match (vs[2]? : Option Value) with
      | some (.str fl _) => file == fl
      | _ => false)
    | _ => false)
  | _ => false
def DefS.ok (K : Frag) (file : Str) (d : DefS) : Bool := keepIn K (.ref (d.ad K)) && (match K.lookup (d.ad K) with
  | some ⟨_, _, .func fd, _⟩ => (if d.wrap = none then (decide (fd.annotations = none) && cellB K d.cname fd.closure) else fd.closure.isEmpty) && (codeIn K fd.code d.qual && fileB K file fd.code)
  | _ => false)
theorem DefS.supD {P : Program} {K : Frag} {file : Str} {d : DefS} (hw : d.wrap = none) (e : fnS K (d.ad K) = d.val) (c : d.ok K file = true) (hf : P.main.file = file) (ht : (P.main.scope.names.lookup ("super" : Str)).isSome = false) :
    ∃ (cc cd : Addr) (fd : FuncData), SupD P K ⟨d.name, d.qual, d.params, d.body, d.scope, [(("__class__" : Str), cc)], cd⟩ (He.fAd K d.at_) (He.ga K d.cname) fd := by
  have ea : d.ad K = He.fAd K d.at_ := by unfold DefS.ad; rw [hw]
  unfold DefS.ok at c
  rw [ea] at e c
  simp only [hw, if_true] at c
  obtain ⟨kp, c2⟩ := He.ba c
  unfold fnS at e
  cases q : K.lookup (He.fAd K d.at_) with
  | none =>
    rw [q] at c2
    cases c2
  | some o =>
    obtain ⟨oc, od, dt, osl⟩ := o
    rw [q] at c2 e
    cases dt with
    | func fd =>
      obtain ⟨nm, qn, pr, bd, sc, gl, cl, df, kw, doc, pm, an, co, ct, bu⟩ := fd
      have e' : (some (nm, qn, pr, bd, sc, gl, bu, df, kw) : FnS) = some (d.name, d.qual, d.params, .stmts d.body, d.scope, mainGlobals, builtinsNs, .none, .none) := e
      injection e' with e'
      injection e' with e1 e'
      injection e' with e2 e'
      injection e' with e3 e'
      injection e' with e4 e'
      injection e' with e5 e'
      injection e' with e6 e'
      injection e' with e7 e'
      injection e' with e8 e9
      subst e1 e2 e3 e4 e5 e6 e7 e8 e9
      obtain ⟨b1, c3⟩ := He.ba c2
      obtain ⟨b2, b3⟩ := He.ba c3
      dsimp only at b1 b2 b3
      obtain ⟨b0, b00⟩ := He.ba b1
      clear b1
      have e10 : an = none := of_decide_eq_true b0
      subst e10
      unfold cellB at b00
      split at b00
      · rename_i n cc
        obtain ⟨b4, b5⟩ := He.ba b00
        have hn : n = ("__class__" : Str) := of_decide_eq_true b4
        subst hn
        split at b5
        · rename_i x1 x2 D x3 lk
          have hD : D = He.ga K d.cname := of_decide_eq_true b5
          subst hD
          unfold fileB at b3
          split at b3
          · rename_i cd
            split at b3
            · rename_i y1 y2 vs y3 lk2
              split at b3
              · rename_i fl tf hv
                exact ⟨cc, cd, _, ⟨oc, od, doc, pm, ct, osl, rfl, q, b2⟩, ⟨cc, x1, x2, x3, rfl, lk⟩, ⟨y1, y2, vs, y3, fl, tf, lk2, hv, by rw [hf]; exact b3⟩, kp, ht⟩
              · cases b3
            · cases b3
          · cases b3
        · cases b5
      · cases b00
    | _ => cases c2
/-- a wrapped def, as any def -/
theorem DefS.funD {K : Frag} {file : Str} {d : DefS} (hw : d.wrap ≠ none) (e : fnS K (d.ad K) = d.val) (c : d.ok K file = true) : ∃ fd : FuncData, FunD K d.name d.qual d.params d.body d.scope [] [] (d.ad K) fd := by
  unfold DefS.ok at c
  simp only [hw, if_false] at c
  obtain ⟨kp, c2⟩ := He.ba c
  unfold fnS at e
  cases q : K.lookup (d.ad K) with
  | none =>
    rw [q] at c2
    cases c2
  | some o =>
    obtain ⟨oc, od, dt, osl⟩ := o
    rw [q] at c2 e
    cases dt with
    | func fd =>
      obtain ⟨nm, qn, pr, bd, sc, gl, cl, df, kw, doc, pm, an, co, ct, bu⟩ := fd
      have e' : (some (nm, qn, pr, bd, sc, gl, bu, df, kw) : FnS) = some (d.name, d.qual, d.params, .stmts d.body, d.scope, mainGlobals, builtinsNs, .none, .none) := e
      simp only [Option.some.injEq, Prod.mk.injEq] at e'
      obtain ⟨e1, e2, e3, e4, e5, e6, e7, e8, e9⟩ := e'
      subst e1 e2 e3 e4 e5 e6 e7 e8 e9
      obtain ⟨b1, c3⟩ := He.ba c2
      obtain ⟨b2, b3⟩ := He.ba c3
      dsimp only at b1 b2 b3
      have hcl : cl = [] := List.isEmpty_iff.mp b1
      subst hcl
      exact ⟨_, ⟨oc, od, .none, .none, doc, pm, an, co, ct, osl, rfl, q, b2, .inl ⟨rfl, rfl⟩, .inl rfl⟩, kp⟩
    | _ => cases c2
/-- an exception class over ValueError, its dict told -/
def oexB (K : Frag) (C : Addr) : Bool := (match K.lookup C with
  | some ⟨.type "type", _, .cls cd, sl⟩ => (match cd.mro, sl.toList with
    | .ref C' :: bm, [_, _, _, _, some (.builtin n), _] => C' == C && (n == "ValueError.__new__" && (!cd.hasDel && (cd.hasDict && PySem.HandSPX.refsVE bm)))
    | _, _ => false)
  | _ => false) && (He.eqO (findIn K (.ref C) "__setattr__") (some (some (.builtin "object.__setattr__"))) && (decide (subIn K (.ref C) (.type "BaseException") = some true) && (decide (typeIn K (.ref C) = some (.type "type")) && keepIn K (.ref C))))
theorem oexB_ok {K : Frag} {C : Addr} (h : oexB K C = true) : OexC K C := by
  obtain ⟨h1, h2⟩ := He.ba h
  obtain ⟨a1, h2⟩ := He.ba h2
  obtain ⟨a2, h2⟩ := He.ba h2
  obtain ⟨a3, a4⟩ := He.ba h2
  refine ⟨?_, He.eqO_ok a1, of_decide_eq_true a2, of_decide_eq_true a3, a4⟩
  split at h1
  · rename_i dd cd sl ho
    split at h1
    · rename_i C' bm k0 k1 k2 k3 n k5 hm hs
      simp only [Bool.and_eq_true, beq_iff_eq, Bool.not_eq_true'] at h1
      obtain ⟨rfl, rfl, hdel, hh, ht⟩ := h1
      obtain ⟨nm, bs, mro, ns, qn, hd, sn, sub, ab, col, del⟩ := cd
      dsimp only at hm hdel hh
      subst hm hdel hh
      have hsl : sl = #[k0, k1, k2, k3, some (.builtin "ValueError.__new__"), k5] := by
        obtain ⟨l⟩ := sl
        simp only at hs
        rw [hs]
      subst hsl
      exact ⟨nm, qn, ns, bs, bm, sn, sub, ab, col, dd, k0, k1, k2, k3, k5, ho, ht⟩
    · cases h1
  · cases h1
def supB (K : Frag) (C : Addr) : Bool := He.eqO (ks_superIn K C C "__init__") (some (some (.builtin "ValueError.__init__"))) && (decide (mroIn K C (.ref C) = some true) && (decide (subIn K (.ref C) (.type "ValueError") = some true) && He.eqO (nsIn K cStatics "thirdparty.any") (some none)))
theorem supB_ok {K : Frag} {C : Addr} (h : oexB K C = true) (h2 : supB K C = true) : SupC K C := by
  obtain ⟨a1, h2⟩ := He.ba h2
  obtain ⟨a2, h2⟩ := He.ba h2
  obtain ⟨a3, a4⟩ := He.ba h2
  exact ⟨oexB_ok h, He.eqO_ok a1, of_decide_eq_true a2, of_decide_eq_true a3, He.eqO_ok a4⟩
/-! ### the Hook -/
abbrev AlZ : Type := He.AlT × Bool × Bool × List FnS
def kZ (g : Addr → Option Obj) (n : Nat) : Frag := He.frT g (He.asD g n ++ [cStatics])
def obsZ (n : Nat) (fa : List He.Fa) (fn : List He.DefD) (fs : List DefS) (file : Str) (ex : Frag → Bool) (g : Addr → Option Obj) : AlZ := (He.obsT fa fn [] (kZ g n), ex (kZ g n), fs.all (fun d => d.ok (kZ g n) file), fs.map fun d => fnS (kZ g n) (d.ad (kZ g n)))
def valZ (fn : List He.DefD) (fs : List DefS) (w : World) : AlZ := (He.valT fn [] w, true, true, fs.map DefS.val)
structure SaysZ (fa : List He.Fa) (fn : List He.DefD) (fs : List DefS) (file : Str) (ex : Frag → Bool) (w : World) (h : Heap) (K : Frag) : Prop where
  x : He.SaysX fa fn [] [] ex w h K
  ok : fs.all (fun d => d.ok K file) = true
  eq : (fs.map fun d => fnS K (d.ad K)) = fs.map DefS.val
def hookZ (n : Nat) (fa : List He.Fa) (fn : List He.DefD) (fs : List DefS) (file : Str) (ex : Frag → Bool) : Hook where
  α := AlZ
  obs := fun s => obsZ n fa fn fs file ex s.heap.get?
  val := fun w => valZ fn fs w
  says := fun w h => ∃ K : Frag, K.In h ∧ SaysZ fa fn fs file ex w h K
  of := fun w h e => ⟨kZ _ n, He.frT_in, ⟨⟨congrArg (fun z : AlZ => z.1) e, congrArg (fun z : AlZ => z.2.1) e, fun p hp => absurd hp List.not_mem_nil, fun p hp => absurd hp List.not_mem_nil, fun p hp => absurd hp List.not_mem_nil⟩, congrArg (fun z : AlZ => z.2.2.1) e, congrArg (fun z : AlZ => z.2.2.2) e⟩⟩
  keeps := fun _ _ _ ⟨K, hK, c⟩ k => ⟨K, Frag.In.keeps hK k, ⟨⟨c.x.t, c.x.more, c.x.hd, c.x.out, fun p hp => absurd hp List.not_mem_nil⟩, c.ok, c.eq⟩⟩
theorem obsZ_eq {n : Nat} {fa : List He.Fa} {fn : List He.DefD} {fs : List DefS} {file : Str} {ex : Frag → Bool} {g : Addr → Option Obj} {s : Shared} (h : ∀ a, g a = s.heap.get? a) : obsZ n fa fn fs file ex g = (hookZ n fa fn fs file ex).obs s := by
  have e : g = s.heap.get? := funext h
  rw [e] <;> rfl
structure HC2 (P : Program) (fa : List He.Fa) (fn : List He.DefD) (fs : List DefS) (xf : XF) (w : World) (K : Frag) (mg : Str → Option Value) : Prop where
  ex : ∃ hp : Heap, K.In hp ∧ hp.Ns mainGlobals mg ∧ SaysZ fa fn fs P.main.file (xfB xf) w hp K
  top : (P.main.scope.names.lookup ("super" : Str)).isSome = false
section
variable {P : Program} {fa : List He.Fa} {fn : List He.DefD} {fs : List DefS} {xf : XF} {w : World} {K : Frag} {mg : Str → Option Value}
theorem HC2.c (C : HC2 P fa fn fs xf w K mg) : HC fa fn xf w K mg := by
  obtain ⟨hp, X, G, c⟩ := C.ex
  exact ⟨hp, X, G, c.x⟩
theorem HC2.fact (C : HC2 P fa fn fs xf w K mg) (i : Nat) {f : He.Fa} (h : fa[i]? = some f) : f.ok K = true := C.c.fact i h
theorem HC2.def_ (C : HC2 P fa fn fs xf w K mg) (i : Nat) {d : He.DefD} (h : fn[i]? = some d) : ∃ fd, FunD K d.name d.qual d.params d.body d.scope (d.dvs K) (d.kws K) (He.fAd K d.at_) fd := C.c.def_ i h
theorem HC2.xt (C : HC2 P fa fn fs xf w K mg) (i : Nat) {b : Bool} (h : (xf K)[i]? = some b) : b = true := C.c.xt i h
theorem HC2.glo (C : HC2 P fa fn fs xf w K mg) (i : Nat) {x : Str} (h : fa[i]? = some (.glo x)) : mg x = some (.ref (He.ga K x)) := C.c.glo i h
theorem HC2.free (C : HC2 P fa fn fs xf w K mg) (i : Nat) {x : Str} (h : fa[i]? = some (.free x)) : mg x = none := C.c.free i h
theorem HC2.wrp (C : HC2 P fa fn fs xf w K mg) (i : Nat) {d : DefS} (hw : d.wrap ≠ none) (h : fs[i]? = some d) : ∃ fd : FuncData, FunD K d.name d.qual d.params d.body d.scope [] [] (d.ad K) fd := by
  obtain ⟨hp, X, G, c⟩ := C.ex
  have e2 : (fs.map fun d => fnS K (d.ad K))[i]? = (fs.map DefS.val)[i]? := by rw [c.eq]
  rw [List.getElem?_map, List.getElem?_map, h] at e2
  exact DefS.funD hw (Option.some.inj e2) (List.all_eq_true.mp c.ok d (List.mem_of_getElem? h))
theorem HC2.sup (C : HC2 P fa fn fs xf w K mg) (i : Nat) {d : DefS} (hw : d.wrap = none) (h : fs[i]? = some d) : ∃ (cc cd : Addr) (fd : FuncData), SupD P K ⟨d.name, d.qual, d.params, d.body, d.scope, [(("__class__" : Str), cc)], cd⟩ (He.fAd K d.at_) (He.ga K d.cname) fd := by
  obtain ⟨hp, X, G, c⟩ := C.ex
  have e2 : (fs.map fun d => fnS K (d.ad K))[i]? = (fs.map DefS.val)[i]? := by rw [c.eq]
  rw [List.getElem?_map, List.getElem?_map, h] at e2
  exact DefS.supD hw (Option.some.inj e2) (List.all_eq_true.mp c.ok d (List.mem_of_getElem? h)) rfl C.top
end
end ND
noncomputable section
namespace ND
open PySem L2 PyProof.Rows
section
variable {X : Cx} {Wx : WX} {o e : Expr} {es : List Expr} {ms : M (List D)} {pos apos p : Pos}
def xL2 (g1 g2 : XG) : XG := fun k fs xs st => (g1 k fs xs st).bind fun a s1 => (g2 k fs xs s1).bind fun b s2 => if Ok (2 ≤ sizeLine) then .ok (.lst [a, b]) s2 else .bad
theorem xr_l2 {i : Nat} {r1 r2 : Expr} {g1 g2 : XG} {p1 : Pos} (h1 : XR X i r1 g1) (h2 : XR X i r2 g2) (hs1 : ∀ env, starEach [r1, r2] env = (false, eval r1 env) :: starEach [r2] env := by exact fun _ => rfl) (hs2 : ∀ env, starEach [r2] env = (false, eval r2 env) :: starEach [] env := by exact fun _ => rfl) : XR X i (.List [r1, r2] p1) (xL2 g1 g2) := by
  intro a oe cls d pn hz hf
  obtain ⟨t1, he1, ht1⟩ := h1 a oe cls d pn hz hf
  obtain ⟨t2, he2, ht2⟩ := h2 a oe cls d pn hz hf
  refine ⟨_, pe_lst (pa_cons he1 (pa_cons he2 pa_nil (hs2 _)) (hs1 _)), ?_⟩
  intro k fs xs mu xi st σ H Q ec ha xr c h
  refine ht1 k fs xs mu xi st σ H _ ec ha xr c (Post.mono (xpost h) fun v H1 ⟨mu1, xi1, y, st1, l, ry, c1, h1⟩ => ?_)
  refine ht2 k fs xs mu1 xi1 st1 σ H1 _ ec ha (xr.sub l.sub) c1 (Post.mono (xpost h1) fun v2 H2 ⟨mu2, xi2, y2, st2, l2, ry2, c2, h2⟩ => ?_)
  by_cases hz : Ok (2 ≤ sizeLine)
  · rw [if_pos hz] at h2
    exact ⟨hz, fun p hp => post_newL (lv := false) c2 (.cons (ry.le l2) (.cons ry2 .nil)) h2 p hp⟩
  · rw [if_neg hz] at h2
    exact h2.elim
/-! ### a staticmethod, off its class -/
structure SmD (P : Program) (w : World) (K : PySem.W.Frag) (mg : Str → Option Value) (base : Heap) (lv : Nat) (k m : String) (F : DF) : Prop where
  gl : mg (Str.ofString k) = some (.ref (gaS K k))
  rd : PySem.W.readsIn K (gaS K k) (.type "type") = true
  ga : PySem.W.specialIn K (.ref (gaS K k)) "__getattribute__" = some (some (.builtin "type.__getattribute__"))
  wr : He5.wrapB K (gaS K k) "staticmethod" "staticmethod.__get__" (Str.ofString m) = true
  fn : FnD P w K mg base lv (He5.wf K (gaS K k) "staticmethod" (Str.ofString m)) F
theorem ce_smeth {lv : Nat} {k m : String} {kn mn : Str} {F : DF} {pl : Sem Bool} (T : SmD X.prog X.w X.K X.mg X.base lv k m F) (hr : Room lv X.A) (tk : Takes X Wx) (ha : CA X Wx (e :: es) ms) (en : kn = Str.ofString k := by rfl) (em : mn = Str.ofString m := by rfl) (hg : Gl X kn := by rfl) (hdb : (kn == ("__debug__" : Str)) = false := by decide)
    (hst : starEach (e :: es) X.env = (false, eval e X.env) :: starEach es X.env := by rfl) (hpl : (backTo pos (starEach es X.env)).any (·.1) = false := by rfl)
    (ht : eval (.Call (.Attribute (.Name kn p) mn apos) (e :: es) [] pos) X.env = (do
      let ov ← eval (.Name kn p) X.env
      standAt apos.atName
      let (f, first) ← holding [ov] (getMethod ov mn pl)
      callWith pos f first (backTo pos (starEach (e :: es) X.env)) (backToKw pos (keywordEach [] X.env))) := by rfl) :
    CE X Wx (.Call (.Attribute (.Name kn p) mn apos) (e :: es) [] pos) (eC F ms) := by
  subst en em
  refine ⟨fun pins s σ H Q I h => ?_⟩
  obtain ⟨mu, xi, env, st, re, c, h⟩ := h
  refine PySem.W.methodCall_KW (pl := pl) (ld_glob I hg T.gl ?_ hdb) ht
  obtain ⟨e1, rest, e2⟩ := He5.wrapB_ok T.wr
  refine PySem.W.method_cls I.kIn T.ga (PySem.W.cls_bind I.kIn T.rd e1 (wpAny_call (PySem.W.sm_get (s := { s with toks := s.toks + 1 }) I.kIn e2 (PySem.W.handed_on rfl ?_))))
  have I1 : Inv X pins σ H { s with toks := s.toks + 1 } := I.tok _
  refine PySem.W.callWith_K (h₀ := X.base) I.ok.mod.kin T.fn.kp (thn (ha.run pos pins _ σ H _ I1 (tG_bind (R := Rels X.K) re c h)) fun us s1 ⟨vs, H1, I2, rv, mu1, xi1, d, st1, l1, r1, c1, re1, p1⟩ => ⟨I2.kIn, ?_⟩) hst hpl
  exact T.fn.run (w := ⟨H1, mu1, xi1⟩) hr tk I2 c1 r1 rv p1
end
end ND
end
noncomputable section
namespace ND
open PySem L2 PyProof.Rows NdefX
/-- an expression read where the def's own code runs -/
structure PEc (X : Cx) (c : Code) (e : Expr) (t : TE) : Prop where
  run : ∀ (pins : List (Addr × Obj)) (s : Shared) (σ : L2.St) (H : Hp) (Q : VK), Inv X pins σ H s → t σ H Q → PySem.wpAt (model X.prog X.w) X.A c (eval e X.env) (EP X pins σ Q) X.xe s
abbrev CEc (X : Cx) (Wx : WX) (c : Code) (e : Expr) (m : M D) : Prop := PEc X c e (tE X.K Wx m)
/-- what stands behind the class D for an instance of the class k: the method of the name m -/
structure UpD (P : Program) (w : World) (K : PySem.W.Frag) (mg : Str → Option Value) (base : Heap) (lv : Nat) (D : Addr) (k m : String) (F : DF) : Prop where
  sub : PySem.W.mroIn K (gaS K k) (.ref D) = some true
  ex : ∃ f, PySem.W.ks_superIn K (gaS K k) D (Str.ofString m) = some (some (.ref f)) ∧ PySem.W.typeIn K (.ref f) = some (.type "function") ∧ PySem.W.fnIn K f = true ∧ FnD P w K mg base lv f F
def UpOk (X : Cx) (D : Addr) (mt : MT) : Prop := ∀ k m F, mfind mt k m = some F → ∃ lv, Room lv X.A ∧ UpD X.prog X.w X.K X.mg X.base lv D k m F
theorem UpOk.nil {X : Cx} {D : Addr} : UpOk X D [] := fun k m F h => by cases h
theorem UpOk.cons {X : Cx} {D : Addr} {lv : Nat} {k m : String} {F : DF} {mt : MT} (hr : Room lv X.A) (h : UpD X.prog X.w X.K X.mg X.base lv D k m F) (t : UpOk X D mt) : UpOk X D ((k, m, F) :: mt) := fun k' m' F' h' => by
  unfold mfind at h'
  split at h'
  · rename_i e
    cases h'
    rw [← e.1, ← e.2]
    exact ⟨lv, hr, h⟩
  · exact t k' m' F' h'
/-- super().m() of the self in slot 0 -/
def eSup (mt : MT) (m : String) : M D := fun env st => match env[0]? with
  | some (some x) => (match insD st x with
    | some (k, _, _) => (match mfind mt k m with
      | some F => F [x] st
      | none => .bad)
    | none => .bad)
  | _ => .bad
section
variable {X : Cx} {Wx : WX} {F : NF} {f C L : Addr} {fd : FuncData} {p0 p1 p2 p pos pos' : Pos} {ar : Arg} {a b : Expr} {ma mb : M D}
theorem cec_super {mt : MT} {m : String} {mn : Str} {pl : Sem Bool} (hE : X.env = envF F f L) (SD : SupD X.prog X.K F f C fd) (hcd : ∃ cd, PySem.W.clsIn X.K C = some cd) (opq : PySem.W.nsIn X.K cStatics "thirdparty.any" = some none) (hms : X.mg "super" = none) (hm : UpOk X C mt) (tk : Takes X Wx)
    (hks : F.scope.names.lookup ("super" : Str) = some .globalImplicit) (hkc : F.scope.names.lookup ("__class__" : Str) = some .free) (hp : (F.params.posonlyargs ++ F.params.args).head? = some ar) (hN : X.N[0]? = some ar.arg) (hka : F.scope.names.lookup ar.arg = some .local)
    (en : mn = Str.ofString m) (hat : (mn == ("__class__" : Str)) = false)
    (he : eval (.Call (.Attribute (.Call (.Name "super" p0) [] [] p1) mn p2) [] [] pos) X.env = (do
      let ov ← attributeBase (.Call (.Name "super" p0) [] [] p1) mn X.env (eval (.Call (.Name "super" p0) [] [] p1) X.env)
      standAt p2.atName
      let (f, first) ← holding [ov] (getMethod ov mn pl)
      callWith pos f first (backTo pos (starEach [] X.env)) [])) :
    CEc X Wx (.func F.body X.env) (.Call (.Attribute (.Call (.Name "super" p0) [] [] p1) mn p2) [] [] pos) (eSup mt m) := by
  subst en
  refine ⟨fun pins s σ H Q I h => ?_⟩
  obtain ⟨mu, xi, env, st, re, c, h⟩ := h
  unfold eSup at h
  split at h
  rotate_left
  · exact h.elim
  rename_i x hx
  obtain ⟨v, h0, rx⟩ := re.2 0 x hx
  split at h
  rotate_left
  · exact h.elim
  rename_i k fs xs e1
  split at h
  rotate_left
  · exact h.elim
  rename_i G e2
  obtain ⟨a1, dx, gs, ea, q, sf, tf⟩ := insD_ok c rx e1
  subst ea
  obtain ⟨lv, hr, U⟩ := hm k m G e2
  obtain ⟨f2, hsup, htf, hfi, FD⟩ := U.ex
  obtain ⟨oc, od, doc, pm, ctv, osl, rfl, lk, hcd'⟩ := SD.ex
  obtain ⟨cc, ccl, ccd, csl, ecl, lkc⟩ := SD.cl
  obtain ⟨xcl, xcd, xvs, xcs, file, tfl, lkx, hvs, hfile⟩ := SD.code
  obtain ⟨cdD, hcD⟩ := hcd
  have KX := I.kIn
  have kE : ∀ x, X.env.kindOf x = F.scope.names.lookup x := fun x => by rw [hE] <;> rfl
  have kk : X.env.scope.kind = .function := I.ok.kind
  obtain ⟨mA, O, _, _, _, _⟩ := ins_get I.hok q
  obtain ⟨odj, J, hl⟩ := O.look
  obtain ⟨oD, hD1, hD2⟩ : ∃ oD, s.heap.get? C = some oD ∧ oD.data = .cls cdD := by
    unfold PySem.W.clsIn at hcD
    split at hcD
    · rename_i c d cd' sl ho
      cases hcD
      exact ⟨_, KX _ _ ho, rfl⟩
    · cases hcD
  refine PySem.ks_wpAt_MethodCall (PySem.ks_wpAt_super_base (env := X.env) (f := f) (cc := F.c) ((kE _).trans hks) ((kE _).trans hkc) hat (by rw [hE] <;> rfl) (KX _ _ lk) rfl hp (by rw [hE] <;> rfl) (KX _ _ lkx) rfl hvs hfile SD.top ?_) he
  obtain ⟨mb, h1, h2⟩ := I.mod.blt
  refine PySem.W.ks_loadName_global kk ((kE _).trans hks) (Calls.loadGlobal_builtin (by rw [I.ok.glob]; exact I.mod.glob.keeps I.bk) hms (by rw [I.ok.blt]; exact h1.keeps I.bk) ((h2 _ (by decide)).trans (show bootBuiltins "super" = some (.type "super") by decide +kernel)) ⟨rfl, ?_⟩)
  refine wpAny_loadName_free kk ((kE _).trans hkc) (c := cc) (by rw [hE]; show F.cl.lookup _ = _; rw [ecl] <;> rfl) ⟨_, KX _ _ lkc, rfl⟩ ?_
  obtain ⟨mm, hns, hll⟩ := I.loc
  obtain ⟨u, ru, lu⟩ := hll 0 ar.arg _ hN h0 (.inl ((kE _).trans hka))
  obtain rfl : u = Value.ref a1 := ru
  rcases lu with ⟨_, lu⟩ | ⟨lu, _⟩
  rotate_left
  · rw [kE, hka] at lu
    rcases lu with lu | lu <;> cases lu
  refine wpAny_loadName_local kk ((kE _).trans hka) hns lu ?_
  refine PySem.ks_wpAny_isType_cls hD1 hD2 ⟨rfl, ?_⟩
  obtain ⟨hp0, g, dr, tkk, os⟩ := s
  refine PySem.ks_wpAny_call_super hD1 hD2 J.at_ J.cls (fun c z => ?_) (PySem.W.looks_mroIn KX U.sub) (fun h' eso kp => ?_)
  · have := J.no
    unfold PySem.W.notCls at this
    rw [z] at this
    exact Bool.noConfusion this
  have I2 : Inv X pins σ H ⟨h', g, dr, tkk, os⟩ := I.kept (t' := tkk) kp
  obtain ⟨mA2, O2, _, _, _, _⟩ := ins_get I2.hok q
  obtain ⟨odj2, J2, _⟩ := O2.look
  cases hc : PySem.W.clsIn X.K (gaS X.K k) with
  | none => unfold PySem.W.ks_superIn at hsup; rw [hc] at hsup; cases hsup
  | some cd =>
    unfold PySem.W.ks_superIn at hsup
    rw [hc] at hsup
    obtain ⟨of, hof, hofc⟩ : ∃ of, h'.get? f2 = some of ∧ of.cls = .type "function" := by
      have ht' : (X.K.lookup f2).map (·.cls) = some (.type "function") := htf
      cases z : X.K.lookup f2 with
      | none => rw [z] at ht'; cases ht'
      | some of => rw [z] at ht'; exact ⟨of, I2.kIn _ _ z, Option.some.inj ht'⟩
    refine PySem.ks_wpAny_getMethod_super eso (PySem.W.looks_opaque I2.kIn opq) (l₀ := cd.mro) ?_ rfl I2.kIn hsup hof hofc (PySem.W.ks_ne I2.kIn J2 hc) hat ?_
    · exact fun A Q E s k q => wpAny_bind ((PySem.W.looks_clsIn I2.kIn hc) A _ E s k (wpAny_pure q))
    · have kp3 : ∀ b o, h'.get? b = some o → (h'.push (PySem.W.methodObj (.ref f2) (.ref a1))).get? b = some o := fun b o e => Heap.get?_push_of_some _ e
      have I3 : Inv X pins σ H ⟨h'.push (PySem.W.methodObj (.ref f2) (.ref a1)), g, dr, tkk + 1, os⟩ := I2.kept (t' := tkk + 1) kp3
      have hq3 : (h'.push (PySem.W.methodObj (.ref f2) (.ref a1))).get? h'.objs.size = some (PySem.W.methodObj (.ref f2) (.ref a1)) := Heap.get?_push_at rfl rfl
      refine PySem.W.callWith_M0 (K := X.K) (g := f2) (self := .ref a1) ⟨hq3, I3.kIn⟩ hfi ?_
      have hx' : PassesAt (L2.CX X.prog X.w) X σ (WE Wx σ) := passAt tk σ
      show wpAny _ _ (call (.ref h'.objs.size) []) _ _ _
      refine wpAny_call (PySem.W.method_call (p := h'.objs.size) (f := .ref f2) (self := .ref a1) hq3 ?_)
      have rr : Rels X.K ⟨H, mu, xi⟩ [x] [.ref a1] := .cons rx .nil
      have run := FD.run (w := ⟨H, mu, xi⟩) (us := [.ref a1]) (vs := [.ref a1]) (ds := [x]) (Q := Q) hr tk I3 c rr (.cons rfl .nil) h
      refine codeAny_mono (FD.ex X.A X.stack _ H [.ref a1] [.ref a1] Q (WE Wx σ) hr I3.env0 (.cons rfl .nil) ⟨mu, xi, [x], st, rr, c, ?_⟩) fun r s' hq => ?_
      · cases e : G [x] st with
        | ok d st' =>
          rw [e] at h
          exact h
        | exc k fs xs st' =>
          rw [e] at h
          exact h
        | bad =>
          rw [e] at h
          exact h
      · cases r with
        | error e => exact hx' pins H _ e s' I3 hq
        | ok fl =>
          cases fl with
          | ret u => exact I3.after hq
          | next => exact False.elim hq
          | brk => exact False.elim hq
          | cont => exact False.elim hq
/-- a row of arguments whose first is read there -/
theorem at_spliced_cons {M : Model} {A : Around} {c : Code} {E : Value → Shared → Prop} {s : Shared} {x : Sem Value} {rest : List (Bool × Sem Value)} {Q : List Value → Shared → Prop}
    (h : PySem.wpAt M A c x (fun v s₁ => PySem.wpAt M A c (spliced rest) (fun vs s₂ => Q (v :: vs) s₂) E s₁) E s) : PySem.wpAt M A c (spliced ((false, x) :: rest)) Q E s := by
  rw [spliced]
  refine PySem.wpAt_bind (PySem.ks_wpAt_mono h (fun v s₁ h₁ => ?_) fun _ _ x => x)
  simp only [Bool.false_eq_true, if_false]
  exact PySem.wpAt_bind (PySem.wpAt_of_wpAny (wpAny_pure (PySem.wpAt_bind (PySem.ks_wpAt_holding (PySem.ks_wpAt_mono h₁ (fun vs s₂ h₂ => PySem.wpAt_of_wpAny (wpAny_pure h₂)) fun _ _ x => x)))))
theorem at_spliced_star {M : Model} {A : Around} {c : Code} {E : Value → Shared → Prop} {s : Shared} {x : Sem Value} {rest : List (Bool × Sem Value)} {Q : List Value → Shared → Prop}
    (h : PySem.wpAt M A c x (fun v s₁ => PySem.W.StarOf M A E v (fun here s₂ => wpAny M A (spliced rest) (fun vs s₃ => Q (here ++ vs) s₃) E s₂) s₁) E s) :
    PySem.wpAt M A c (spliced ((true, x) :: rest)) Q E s := by
  rw [spliced]
  refine PySem.wpAt_bind (PySem.ks_wpAt_mono h (fun v s₁ h₁ => PySem.wpAt_of_wpAny ?_) fun _ _ x => x)
  unfold PySem.W.StarOf at h₁
  refine wpAny_bind (wpAny_mono h₁ (fun b s₂ h₂ => ?_) fun _ _ x => x)
  obtain ⟨rfl, h₂⟩ := h₂
  have z := wpAny_mono h₂ (fun here s₃ h₃ => (show wpAny M A (holding here (spliced rest) >>= fun r => pure (here ++ r)) Q E s₃ from
    wpAny_bind (wpAny_holding (wpAny_mono h₃ (fun vs s₄ h₄ => wpAny_pure h₄) fun _ _ x => x)))) fun _ _ x => x
  try simp only [Bool.false_eq_true, if_false]
  first
    | exact z
    | exact wpAny_bind z
    | exact wpAny_bind (wpAny_pure z)
theorem at_back {pos : Pos} {M : Model} {A : Around} {c : Code} {E : Value → Shared → Prop} {s : Shared} {x : Sem Value} {Q : Value → Shared → Prop} (h : PySem.wpAt M A c x Q E s) : PySem.wpAt M A c (do let v ← x; standAt pos; pure v) Q E s :=
  PySem.wpAt_bind (PySem.ks_wpAt_mono h (fun v s₁ h₁ => PySem.wpAt_of_wpAny (wpAny_bind (wpAny_standAt (wpAny_pure h₁)))) fun _ _ x => x)
/-- f(e), e read there -/
theorem cec_call {c : Code} {lv : Nat} {x : Str} {G : DF} (T : FnG X.prog X.w X.K X.mg X.base lv x G) (hr : Room lv X.A) (tk : Takes X Wx) (ha : CEc X Wx c a ma) (hg : Gl X x) (hdb : (x == ("__debug__" : Str)) = false)
    (he : eval (.Call (.Name x p) [a] [] pos) X.env = (eval (.Name x p) X.env >>= fun f => callWith pos f [] (backTo pos (starEach [a] X.env)) []))
    (hst : starEach [a] X.env = [(false, eval a X.env)]) : CEc X Wx c (.Call (.Name x p) [a] [] pos) (eC G (aCons ma aNil)) := by
  refine ⟨fun pins s σ H Q I h => ?_⟩
  obtain ⟨f, hmg, FD⟩ := T.ex
  rw [he]
  refine PySem.wpAt_bind (PySem.wpAt_of_wpAny (thn ((pe_glob (v := .ref f) hg hmg rfl hdb).run pins s σ H (fun v H1 => v = .ref f ∧ tE X.K Wx (eC G (aCons ma aNil)) σ H1 Q) I ⟨rfl, h⟩) fun u s1 ⟨v, H1, I1, rv, ev, h⟩ => ?_))
  subst ev
  obtain rfl : u = Value.ref f := rv
  obtain ⟨mu, xi, env, st, re, cr, h⟩ := h
  unfold callWith
  rw [hst]
  have eb : backTo pos [(false, eval a X.env)] = [(false, eval a X.env)] := rfl
  rw [eb]
  refine PySem.wpAt_bind (PySem.ks_wpAt_holding ?_)
  unfold evalArgs
  show PySem.wpAt _ _ _ (spliced [(false, eval a X.env)] >>= _) _ _ _
  have e1 : eC G (aCons ma aNil) env st = (ma env st).bind fun d s1 => G [d] s1 := by
    unfold eC aCons aNil
    cases ma env st <;> rfl
  rw [e1] at h
  refine PySem.wpAt_bind (at_spliced_cons (PySem.ks_wpAt_mono (ha.run pins s1 σ H1 _ I1 (tG_bind (R := Rel X.K) re cr h)) (fun v s2 ⟨y, H2, I2, ry, mu1, xi1, d, st1, l1, r1, c1, re1, p1⟩ => PySem.wpAt_of_wpAny (Calls.spliced_nil (PySem.wpAt_of_wpAny (wpAny_holding (wpAny_bind (wpAny_pure (wpAny_bind (wpAny_pure (wpAny_pure (PySem.wpAt_of_wpAny ?_)))))))))) fun _ _ x => x))
  refine wpAny_bind (wpAny_standAt ?_)
  obtain ⟨k, hk', L⟩ := PySem.W.keeps_K (M := model X.prog X.w) FD.kp _ I2.kIn
  simp only [List.any_cons, List.any_nil, Bool.or_false, List.nil_append]
  refine wpAny_bind (L.here ?_)
  have tail : ∀ {t : Sem Value}, wpAny (model X.prog X.w) X.A t (EP X pins σ Q) X.xe s2 → wpAny (model X.prog X.w) X.A (t >>= fun r => holding [r] point >>= fun _ => pure r) (EP X pins σ Q) X.xe s2 :=
    fun ht => wpAny_bind (wpAny_mono ht (fun r s₂ hr => wpAny_bind (wpAny_holding (wpAny_point (wpAny_pure hr)))) fun _ _ x => x)
  have run := FD.run (w := ⟨H2, mu1, xi1⟩) (us := [v]) (vs := [y]) (ds := [d]) hr tk I2 c1 (.cons r1 .nil) (.cons ry .nil) p1
  have marked (mk : Value) : wpAny (model X.prog X.w) X.A (callMarked mk (.ref f) [v] []) (EP X pins σ Q) X.xe s2 := by unfold callMarked; exact Calls.wpAny_keep run
  rcases hk' with rfl | rfl | rfl <;> dsimp only <;> first | exact tail run | (split <;> first | exact tail run | exact tail (marked _))
/-- [e, *e2], e2 read there -/
theorem cec_lst1 {c : Code} {lv : Bool} {ep : Pos} (ha : CE X Wx a ma) (hb : CEc X Wx c b mb) (hst : starEach [a, .Starred b ep] X.env = [(false, eval a X.env), (true, eval b X.env)]) : CEc X Wx c (.List [a, .Starred b ep] pos) (eLst lv (aCons ma (aStar mb aNil))) := by
  refine ⟨fun pins s σ H Q I h => ?_⟩
  obtain ⟨mu, xi, env, st, re, cr, h⟩ := h
  have e0 : eval (.List [a, .Starred b ep] pos) X.env = (do standAt pos; newList (← spliced (backTo pos (starEach [a, .Starred b ep] X.env)))) := by rw [eval]
  rw [e0, hst]
  have eb : backTo pos [(false, eval a X.env), (true, eval b X.env)] = [(false, eval a X.env), (true, (do let v ← eval b X.env; standAt pos; pure v))] := rfl
  rw [eb]
  refine PySem.wpAt_bind (PySem.wpAt_of_wpAny (wpAny_standAt ?_))
  unfold eLst at h
  have e1 : aCons ma (aStar mb aNil) env st = (ma env st).bind fun d s1 => (mb env s1).bind fun d2 s2 => match seqX s2 d2 with
      | some xs => .ok (d :: (xs ++ [])) s2
      | none => .bad := by
    unfold aCons aStar aNil
    cases ma env st with
    | ok d s1 =>
      simp only [Res.bind_ok]
      cases mb env s1 with
      | ok d2 s2 =>
        simp only [Res.bind_ok]
        cases seqX s2 d2 <;> rfl
      | _ => rfl
    | _ => rfl
  rw [e1] at h
  have h3 : Post X.K (Rel X.K) ⟨H, mu, xi⟩ σ Wx Q ((ma env st).bind fun d s1 => (mb env s1).bind fun d2 s2 => (match seqX s2 d2 with
      | some xs => if Ok ((d :: (xs ++ [])).length ≤ sizeLine) then mkL lv (d :: (xs ++ [])) s2 else .bad
      | none => .bad)) := by
    revert h
    cases ma env st with
    | ok d s1 =>
      simp only [Res.bind_ok]
      cases mb env s1 with
      | ok d2 s2 =>
        simp only [Res.bind_ok]
        cases seqX s2 d2 <;> exact fun h => h
      | _ => exact fun h => h
    | _ => exact fun h => h
  refine PySem.wpAt_bind (at_spliced_cons (PySem.wpAt_of_wpAny (thn (ha.run pins s σ H _ I (tG_bind (R := Rel X.K) re cr h3)) fun v s1 ⟨y, H1, I1, ry, mu1, xi1, d, st1, l1, r1, c1, re1, p1⟩ => ?_)))
  refine at_spliced_star (at_back (PySem.ks_wpAt_mono (hb.run pins s1 σ H1 _ I1 (tG_bind (R := Rel X.K) re1 c1 p1)) (fun v2 s2 ⟨y2, H2, I2, ry2, mu2, xi2, d2, st2, l2, r2, c2, re2, p2⟩ => ?_) fun _ _ x => x))
  cases es : seqX st2 d2 with
  | none =>
    rw [es] at p2
    exact p2.elim
  | some xs =>
    rw [es] at p2
    obtain ⟨a1, v1, ea, q1, s3⟩ := seqX_ok c2 r2 es
    subst ea
    obtain rfl : v2 = Value.ref a1 := ry2
    refine StX.star_any I2 q1.symm fun us s4 I4 rv => Calls.spliced_nil (PySem.wpAt_of_wpAny ?_)
    have p3 : Post X.K (Rel X.K) ⟨H2, mu2, xi2⟩ σ Wx Q (if Ok ((d :: (xs ++ [])).length ≤ sizeLine) then mkL lv (d :: (xs ++ [])) st2 else .bad) := p2
    split at p3
    · rename_i hz
      have rr : Rels X.K ⟨H2, mu2, xi2⟩ (d :: (xs ++ [])) (y :: (v1 ++ [])) := .cons (r1.le l2) (by rw [List.append_nil, List.append_nil]; exact s3)
      have rv2 : Vals (y :: (v1 ++ [])) (v :: (us ++ [])) := .cons ry (by rw [List.append_nil, List.append_nil]; exact rv)
      have hz' : (y :: (v1 ++ [])).length ≤ sizeLine := by rw [← rr.length]; exact hz
      have hf : H2 s4.heap.objs.size = none := I4.hok.fresh (Nat.le_refl _)
      refine wpAny_newList ⟨.ref s4.heap.objs.size, upd H2 s4.heap.objs.size (.lst (y :: (v1 ++ []))), I4.laid (t' := s4.toks) (fun b u e => Heap.get?_push_of_some _ e) (Nat.le_refl _) ?_, rfl, post_newL c2 rr p3 _ hf⟩ (by rw [← rv2.length]; exact hz')
      exact ⟨hz', _, 0, rv2, Heap.get?_push_size _ rfl⟩
    · exact p3.elim
/-- the def: return e -/
theorem fnd_sup {P : Program} {w : World} {K : PySem.W.Frag} {mg : Str → Option Value} {base : Heap} {N ps : List Str} {lv : Bool} {k : Nat} {e : Expr} {m : M D} (SD : SupD P K F f C fd) (S : NScope N ps ["__class__"] F.scope) (hN : N = ps ++ [("__class__" : Str)]) (hbd : F.body = [.Return (some e) pos]) (hb : Binds K fd ps [])
    (hce : ∀ A outer s H E, Room k (A.deeper (envF F f s.heap.objs.size)) → Takes (ncx (L2.CX P w) P w K mg base N F f A outer s H E) (WXe E) → CEc (ncx (L2.CX P w) P w K mg base N F f A outer s H E) (WXe E) (.func F.body (envF F f s.heap.objs.size)) e m) :
    FnD P w K mg base (k + 1) f (fn ps.length N.length lv (sRet m)) := by
  have ok : FnOk P w K mg base (L2.CX P w) (k + 1) f fd ps (spM K (fn ps.length N.length lv (sRet m))) := by
    refine sup_ok S SD (fun vs H Q E h => ?_) (fun A outer s H vs Q E hr hsp s1 I => ?_)
    · obtain ⟨mu, xi, ds, st, r, c, h⟩ := h
      unfold fn at h
      split at h
      · rename_i hl
        rw [← r.length]
        exact hl
      · exact h.elim
    · obtain ⟨mu, xi, ds, st, r, c, h⟩ := hsp
      unfold fn at h
      split at h
      rotate_left
      · exact h.elim
      rename_i hl
      have tk : Takes (ncx (L2.CX P w) P w K mg base N F f A outer s H E) (WXe E) := takes_of (X := ncx (L2.CX P w) P w K mg base N F f A outer s H E) rfl rfl rfl rfl
      have re : REnv K ⟨H, mu, xi⟩ (ds.map some ++ List.replicate (N.length - ps.length) none) (startF N vs [none]) := by
        have := REnv.start (N := N) r
        have hvl := r.length
        have e2 : startF N vs [none] = L2.start N vs := by
          unfold startF L2.start
          congr 1
          rw [hN]
          simp [← hvl, hl]
        rw [e2, ← hl]
        exact this
      have h2 := fnEnd_ok (E := E) c h
      have goal : PySem.wpAt (model P w) (A.deeper (envF F f s.heap.objs.size)) (.func F.body (envF F f s.heap.objs.size)) (execs [.Return (some e) pos] (envF F f s.heap.objs.size)) (SP (ncx (L2.CX P w) P w K mg base N F f A outer s H E) [] { nx := fun _ H' => Q .non H', rt := Q }) (ncx (L2.CX P w) P w K mg base N F f A outer s H E).xe s1 := by
        refine PySem.ks_wpAt_execs_cons (PySem.ks_wpAt_Return_some ?_)
        refine PySem.ks_wpAt_mono ((hce A outer s H E hr tk).run [] s1 _ H Q I ⟨mu, xi, _, st, re, c, ?_⟩) (fun v s2 ⟨x, H1, I1, rx, q⟩ => ⟨x, _, H1, I1, rx, q⟩) fun _ _ z => z
        unfold sRet at h2
        cases em : m (ds.map some ++ List.replicate (N.length - ps.length) none) st with
        | ok d st' =>
          rw [em] at h2
          exact h2
        | exc k fs xs st' =>
          rw [em] at h2
          exact fun w' dd l c' x => h2 w' (startF N vs [none]) dd l (re.le l) c' x
        | bad =>
          rw [em] at h2
          exact h2
      have eb : execs F.body (envF F f s.heap.objs.size) = execs [.Return (some e) pos] (envF F f s.heap.objs.size) := congrArg (fun b => execs b (envF F f s.heap.objs.size)) hbd
      rw [eb]
      exact goal
  obtain ⟨oc, od, doc, pm, ctv, osl, efd, lk, hcd⟩ := SD.ex
  refine ⟨fun A outer s H us vs Q E hr e0 r h => ?_, SD.kp⟩
  have hl : us.length = ps.length := by rw [← r.length]; exact ok.len _ _ _ _ h
  have b := hb s us (e0.mod.kin.keeps fun b o e => (e0.bs b o e).1) (by rw [List.append_nil]; exact hl)
  rw [List.append_nil] at b
  exact ok.run A outer s H ⟨us, []⟩ us vs Q E hr e0 b r h
end
end ND
end
noncomputable section
namespace ND
open PySem L2 PyProof.Rows PySem.W
open Builtin Builtin.Float
/-- to the right, to the left in w signs -/
def padL (w : Nat) (z : Str) : Str := ⟨(List.replicate (w - z.length) 32 ++ z.cps.toList).toArray⟩
def padR (w : Nat) (z : Str) : Str := ⟨(z.cps.toList ++ List.replicate (w - z.length) 32).toArray⟩
def specB (spec : Str) (tn : String) (dflt al w : Nat) : Bool := match parseFormatSpec spec.cps.toList tn dflt with
  | .ok f => f.fill == 32 && (f.align == al && (f.width == some w && (f.grouping.isNone && (f.sign.isNone && (f.precision.isNone && (f.type.isNone && (!f.noNeg0 && !f.alt)))))))
  | .error _ => false
def specF (al w : Nat) : FormatSpec := { fill := 32, align := al, width := some w }
theorem specB_ok {spec : Str} {tn : String} {dflt al w : Nat} (h : specB spec tn dflt al w = true) : parseFormatSpec spec.cps.toList tn dflt = .ok (specF al w) := by
  unfold specB at h
  split at h
  · rename_i f hf
    rw [hf]
    obtain ⟨fi, al', sg, nn, at', wd, gr, pr, ty⟩ := f
    simp only [Bool.and_eq_true, beq_iff_eq, Option.isNone_iff_eq_none, Bool.not_eq_true'] at h
    obtain ⟨rfl, rfl, rfl, rfl, rfl, rfl, rfl, rfl, rfl⟩ := h
    rfl
  · cases h
theorem text_neg (m : Nat) : Str.ofString (toString (Int.negSucc m)) = ⟨(45 :: (Nat.toDigits 10 (m + 1)).map Char.toNat).toArray⟩ := by
  have e : toString (Int.negSucc m) = "-" ++ toString (m + 1) := rfl
  rw [e, Str.ofString_eq_toList]
  simp [Nat.repr, toString, instToStringNat]
theorem intText_pad (w : Nat) (a : Int) : intField' (specF 62 w) (decide (a < 0)) [] ((Nat.toDigits 10 a.natAbs).map fun c => (if (100 : Nat) == 88 then c.toUpper else c).toNat) [] 3 = padL w (Str.ofString (toString a)) := by
  unfold intField' specF padL
  have hd : ((Nat.toDigits 10 a.natAbs).map fun c => (if (100 : Nat) == 88 then c.toUpper else c).toNat).isEmpty = false := by
    have := tDigits_len_ge 10 a.natAbs
    cases h : Nat.toDigits 10 a.natAbs with
    | nil => rw [h] at this; simp at this
    | cons _ _ => rfl
  simp only [hd, Bool.false_eq_true, if_false, show ((32 : Nat) == 48) = false by decide, show ((62 : Nat) == 60) = false by decide, show ((62 : Nat) == 94) = false by decide, show ((62 : Nat) == 61) = false by decide, Bool.false_and, List.length_nil, List.append_nil, List.nil_append, List.replicate_zero, show ((100 : Nat) == 88) = false by decide, Int.toNat_zero, Nat.zero_sub]
  cases a with
  | ofNat m =>
    have hneg : decide (Int.ofNat m < 0) = false := decide_eq_false (by simp)
    have e1 : (Int.ofNat m).natAbs = m := rfl
    rw [hneg, text_ofNat, e1]
    simp only [Bool.false_eq_true, if_false, List.length_nil, List.append_nil, List.nil_append]
    refine Str.ext' ?_
    simp only [Str.length, List.size_toArray, List.length_map]
    have hd2 : (List.map (fun c : Char => c.toNat) (Nat.toDigits 10 m)).isEmpty = false := by
      have := tDigits_len_ge 10 m
      cases h : Nat.toDigits 10 m with
      | nil => rw [h] at this; simp at this
      | cons _ _ => rfl
    rw [hd2]
    simp only [Bool.false_eq_true, if_false, List.length_map]
    congr 3
    omega
  | negSucc m =>
    have hneg : decide (Int.negSucc m < 0) = true := decide_eq_true (by omega)
    have e1 : (Int.negSucc m).natAbs = m + 1 := rfl
    rw [hneg, text_neg, e1]
    simp only [if_true]
    refine Str.ext' ?_
    have hd2 : (List.map (fun c : Char => c.toNat) (Nat.toDigits 10 (m + 1))).isEmpty = false := by
      have := tDigits_len_ge 10 (m + 1)
      cases h : Nat.toDigits 10 (m + 1) with
      | nil => rw [h] at this; simp at this
      | cons _ _ => rfl
    simp only [Str.length, List.size_toArray, List.length_map, List.length_cons]
    rw [hd2]
    simp only [Bool.false_eq_true, if_false, List.length_map, List.append_assoc, List.singleton_append, List.length_nil]
    congr 3
    omega
theorem log_le {a : Int} (h : a.natAbs.log2 < 1920) : a.natAbs < 10 ^ 4300 := by
  have h1 : a.natAbs < 2 ^ 1920 := by
    by_cases h0 : a.natAbs = 0
    · rw [h0]; exact Nat.pow_pos (by decide)
    · exact (Nat.log2_lt h0).mp h
  exact Nat.lt_of_lt_of_le h1 (Nat.le_trans (Nat.pow_le_pow_left (by decide : 2 ≤ 10) 1920) (Nat.pow_le_pow_right (by decide) (by decide)))
section
variable {prog : Program} {w : World} {A : Around} {E : Value → Shared → Prop} {s : Shared} {t : Tok}
theorem w_no {α : Type} {M : Model} {A : Around} {s : Shared} {c : Prop} [Decidable c] {x y : Sem α} {Q : α → Shared → Prop} {E : Value → Shared → Prop} (hc : ¬ c) (hy : wpAny M A y Q E s) : wpAny M A (if c then x else y) Q E s := by rw [if_neg hc]; exact hy
theorem ret_text2 {X T : Str} {Q : PySem.Fin → Shared → Prop} (e : X = T) (hL : T.length ≤ sizeLine) (h : ∀ t k, Q (.done (.ret (.str T t))) { s with toks := k }) : wpAny (model prog w) A (retStr X) Q E s := KXf.ret_text e (by rw [e]; exact hL) h
theorem w_yes {α : Type} {M : Model} {A : Around} {s : Shared} {c : Prop} [Decidable c] {x y : Sem α} {Q : α → Shared → Prop} {E : Value → Shared → Prop} (hc : c) (hy : wpAny M A x Q E s) : wpAny M A (if c then x else y) Q E s := by rw [if_pos hc]; exact hy
theorem field_intW {W : Nat} {a : Int} {spec : Str} {Q : Value → Shared → Prop} (ha : a.natAbs.log2 < 1920) (hW : W ≤ 1000) (hne : (spec.length == 0) = false)
    (hasc : ((spec.cps.toList.drop 1).any (· ≥ 128) || (spec.cps.getD 0 0 ≥ 128 && !([60, 62, 61, 94] : List Nat).contains (spec.cps.getD 1 0))) = false) (hb : (spec.cps.back? == some 0) = false) (hs : specB spec "int" 62 62 W = true) (hsz : spec.length ≤ sizeLine)
    (h : ∀ t' k, Q (.str (padL W (Str.ofString (toString a))) t') { s with toks := k }) : wpAny (model prog w) A (formatField (.int a t) spec) Q E s := by
  refine KXf.field_int rfl hne hsz (fun u => ?_) h
  apply KPc.meets_of
  intro _ _ _ _ _ _ hq
  unfold Builtin.«int.__format__»
  refine wpAny_bind (wpAny_of_eq (a := (_, _)) rfl (wpAny_bind (wpAny_of_eq (a := _) rfl ?_)))
  simp only [hne, hasc, Bool.false_eq_true, if_false, show (Value.str spec u == Value.none) = false from rfl]
  refine wpAny_bind (wpAny_typeNameOf (T := "str") (typeIs_str _ _ _) (by decide) fun _ => wpAny_bind (wpAny_of_eq (a := some _) rfl ?_))
  simp only [hne, hasc, Bool.false_eq_true, if_false]
  refine wpAny_bind (wpAny_typeNameOfCut_int ?_)
  rw [specB_ok hs]
  simp only [specF, hb, Option.getD_none, Bool.false_eq_true, if_false]
  rw [if_pos (by decide)]
  refine wpAny_bind (m := Builtin.overDigitLimit? a) (wpAny_of_eq (PySem.overDigitLimit_small ha) ?_)
  refine w_no (c := (({ align := 62, width := some W } : FormatSpec).width.getD 0 > 100000)) (by simp; omega) ?_
  refine ret_text2 (intText_pad W a) ?_ hq
  have hdig : (Nat.toDigits 10 a.natAbs).length ≤ 4300 := by
    rw [← Nat.toList_repr, String.length_toList]
    exact (Nat.length_repr_le_iff (by decide)).mpr (log_le ha)
  have hlen : (Str.ofString (toString a)).length ≤ 4301 := by
    cases a with
    | ofNat m => rw [text_ofNat]; unfold Str.length; simpa using Nat.le_trans hdig (by decide)
    | negSucc m => rw [text_neg]; unfold Str.length; simpa using hdig
  have : (padL W (Str.ofString (toString a))).length = (W - (Str.ofString (toString a)).length) + (Str.ofString (toString a)).length := by
    unfold padL Str.length
    simp
  rw [this, sizeLine_eq]
  omega
theorem field_strW {W : Nat} {z spec : Str} {Q : Value → Shared → Prop} (hz : z.length ≤ sizeLine) (hW : W ≤ 1000) (hne : (spec.length == 0) = false)
    (hasc : ((spec.cps.toList.drop 1).any (· ≥ 128) || (spec.cps.getD 0 0 ≥ 128 && !([60, 62, 61, 94] : List Nat).contains (spec.cps.getD 1 0))) = false) (hb : (spec.cps.back? == some 0) = false) (hs : specB spec "str" 60 60 W = true) (hsz : spec.length ≤ sizeLine)
    (h : ∀ t' k, Q (.str (padR W z) t') { s with toks := k }) : wpAny (model prog w) A (formatField (.str z t) spec) Q E s := by
  refine KXf.field_str rfl rfl hne hsz (fun u => ?_) h
  apply KPc.meets_of
  intro _ _ _ _ _ _ hq
  unfold Builtin.«str.__format__»
  refine wpAny_bind (wpAny_of_eq (a := (_, _, _)) rfl ?_)
  refine wpAny_bind (wpAny_of_eq (a := some _) rfl ?_)
  simp only [hne, hasc, Bool.false_eq_true, if_false]
  refine wpAny_bind (KXf.cut_str ?_)
  have htl : Builtin.Str.tooLong W = false := by
    unfold Builtin.Str.tooLong
    have : ¬ (W > sizeLine) := by rw [sizeLine_eq]; omega
    simpa using this
  by_cases hw : W ≤ z.length
  · have e : padR W z = z := by
      unfold padR
      rw [show W - z.length = 0 by omega, List.replicate_zero, List.append_nil]
    have ef : Builtin.Str.strField z (specF 60 W) "str" = .ok none := by
      unfold Builtin.Str.strField specF
      simp [hw] <;> rfl
    rw [specB_ok hs]
    simp only [bind, Except.bind, pure, Except.pure, hb, Bool.and_false, Bool.false_eq_true, if_false, specF] at ef ⊢
    simp only [Option.getD_some, htl, Bool.false_eq_true, if_false, ef]
    refine wpAny_bind (wpAny_rule ?_)
    exact KXf.ret_same e.symm hq
  · have ef : Builtin.Str.strField z (specF 60 W) "str" = .ok (some (padR W z)) := by
      unfold Builtin.Str.strField specF
      simp [hw]
      have es : Builtin.Str.strSub z 0 z.length = z := by
        refine Str.ext' ?_
        unfold Builtin.Str.strSub
        simp [Str.length]
      rw [es]
      show Except.ok (some (Builtin.Str.padded z 0 (W - z.length) 32)) = Except.ok (some (padR W z))
      congr 2
      refine Str.ext' ?_
      unfold Builtin.Str.padded padR
      simp
    rw [specB_ok hs]
    simp only [bind, Except.bind, pure, Except.pure, hb, Bool.and_false, Bool.false_eq_true, if_false, specF] at ef ⊢
    simp only [Option.getD_some, htl, Bool.false_eq_true, if_false, ef]
    refine KXf.ret_text rfl ?_ hq
    have : (padR W z).length = z.length + (W - z.length) := by
      unfold padR Str.length
      simp
    rw [this, sizeLine_eq] at *
    omega
end
section
variable {X : Cx} {Wx : WX} {a : Expr} {ma : M D} {pos p1 p2 p3 : Pos} {k : Nat}
/-- {x:>W} of an int, {x:<W} of a text -/
def fmtWR (W : Nat) (x : D) (st : Sto) : Res D := match x with
  | .int i => if Ok (i.natAbs.log2 < 1920) then .ok (.str (padL W (strI i))) st else .bad
  | _ => .bad
def fmtWL (W : Nat) (x : D) (st : Sto) : Res D := match x with
  | .str z => if Ok (z.length ≤ sizeLine) then .ok (.str (padR W z)) st else .bad
  | _ => .bad
def eFmtR (W : Nat) (ma : M D) : M D := fun env st => (ma env st).bind (fmtWR W)
def eFmtL (W : Nat) (ma : M D) : M D := fun env st => (ma env st).bind (fmtWL W)
structure SpW (spec : Str) (tn : String) (dflt al W : Nat) : Prop where
  w : W ≤ 1000
  ne : (spec.length == 0) = false
  asc : ((spec.cps.toList.drop 1).any (· ≥ 128) || (spec.cps.getD 0 0 ≥ 128 && !([60, 62, 61, 94] : List Nat).contains (spec.cps.getD 1 0))) = false
  b : (spec.cps.back? == some 0) = false
  s : specB spec tn dflt al W = true
  z : spec.length ≤ sizeLine
theorem spec_const {spec : Str} {pins : List (Addr × Obj)} {s : Shared} {σ : L2.St} {H : Hp} {Q : VK} (I : Inv X pins σ H s) (h : Q (.str spec) H) : wpAny (model X.prog X.w) X.A (eval (.JoinedStr [.Constant (.str spec) k p1] p2) X.env) (EP X pins σ Q) X.xe s :=
  wpAny_JoinedStr_one (pe_str.run pins s σ H Q I h)
theorem ce_fmtR (W : Nat) {spec : Str} (S : SpW spec "int" 62 62 W) (ha : CE X Wx a ma) : CE X Wx (.FormattedValue a (-1) (some (.JoinedStr [.Constant (.str spec) k p1] p2)) p3) (eFmtR W ma) := by
  refine ⟨fun pins s σ H Q I h => ?_⟩
  obtain ⟨mu, xi, env, st, re, c, h⟩ := h
  refine wpAny_FormattedValue_spec (thn (ha.run pins s σ H _ I (tG_bind (R := Rel X.K) re c h)) fun v s1 ⟨y, H1, I1, ry, mu1, xi1, d, st1, l1, r1, c1, re1, p1⟩ => ?_)
  refine thn (spec_const I1 (Q := fun x H2 => x = .str spec ∧ H2 = H1) ⟨rfl, rfl⟩) fun r s2 ⟨x, H2, I2, rx, ex, eH⟩ => ?_
  subst ex eH
  obtain ⟨t2, rfl⟩ := rx
  refine ⟨spec, t2, rfl, ?_⟩
  cases d with
  | int i =>
    unfold Rel at r1
    subst r1
    obtain ⟨t1, rfl⟩ := ry
    have p2 : Post X.K (Rel X.K) ⟨H2, mu1, xi1⟩ σ Wx Q (if Ok (i.natAbs.log2 < 1920) then .ok (.str (padL W (strI i))) st1 else .bad) := p1
    split at p2
    · rename_i hz
      exact field_intW hz S.w S.ne S.asc S.b S.s S.z fun t' k => ⟨.str _, H2, I2.tok _, ⟨t', rfl⟩, p2 ⟨H2, mu1, xi1⟩ _ (.refl _) (rel_str _ _) c1⟩
    · exact p2.elim
  | _ => exact p1.elim
theorem ce_fmtL (W : Nat) {spec : Str} (S : SpW spec "str" 60 60 W) (ha : CE X Wx a ma) : CE X Wx (.FormattedValue a (-1) (some (.JoinedStr [.Constant (.str spec) k p1] p2)) p3) (eFmtL W ma) := by
  refine ⟨fun pins s σ H Q I h => ?_⟩
  obtain ⟨mu, xi, env, st, re, c, h⟩ := h
  refine wpAny_FormattedValue_spec (thn (ha.run pins s σ H _ I (tG_bind (R := Rel X.K) re c h)) fun v s1 ⟨y, H1, I1, ry, mu1, xi1, d, st1, l1, r1, c1, re1, p1⟩ => ?_)
  refine thn (spec_const I1 (Q := fun x H2 => x = .str spec ∧ H2 = H1) ⟨rfl, rfl⟩) fun r s2 ⟨x, H2, I2, rx, ex, eH⟩ => ?_
  subst ex eH
  obtain ⟨t2, rfl⟩ := rx
  refine ⟨spec, t2, rfl, ?_⟩
  cases d with
  | str z =>
    unfold Rel at r1
    subst r1
    obtain ⟨t1, rfl⟩ := ry
    have p2 : Post X.K (Rel X.K) ⟨H2, mu1, xi1⟩ σ Wx Q (if Ok (z.length ≤ sizeLine) then .ok (.str (padR W z)) st1 else .bad) := p1
    split at p2
    · rename_i hz
      exact field_strW hz S.w S.ne S.asc S.b S.s S.z fun t' k => ⟨.str _, H2, I2.tok _, ⟨t', rfl⟩, p2 ⟨H2, mu1, xi1⟩ _ (.refl _) (rel_str _ _) c1⟩
    · exact p2.elim
  | _ => exact p1.elim
theorem spw_r6 : SpW ">6" "int" 62 62 6 := ⟨by decide, by decide +kernel, by decide +kernel, by decide +kernel, by decide +kernel, by rw [sizeLine_eq]; decide +kernel⟩
theorem spw_r3 : SpW ">3" "int" 62 62 3 := ⟨by decide, by decide +kernel, by decide +kernel, by decide +kernel, by decide +kernel, by rw [sizeLine_eq]; decide +kernel⟩
theorem spw_l6 : SpW "<6" "str" 60 60 6 := ⟨by decide, by decide +kernel, by decide +kernel, by decide +kernel, by decide +kernel, by rw [sizeLine_eq]; decide +kernel⟩
end
end ND
end
noncomputable section
namespace ND
open PySem L2 PyProof.Rows PySem.W
def repS (z : Str) (n : Nat) : Str := ⟨((List.replicate n z.cps.toList).flatten).toArray⟩
theorem foldl_app (a : Array Nat) : ∀ (n : Nat) (acc : Array Nat), ((List.replicate n a).foldl (· ++ ·) acc).toList = acc.toList ++ (List.replicate n a.toList).flatten
  | 0, acc => by simp
  | n + 1, acc => by
    rw [List.replicate_succ, List.foldl_cons, foldl_app a n (acc ++ a), List.replicate_succ, List.flatten_cons, Array.toList_append, List.append_assoc]
theorem repS_len (z : Str) (n : Nat) : (repS z n).length = z.length * n := by
  unfold repS Str.length
  simp [Nat.mul_comm]
theorem mul_rep (z : Str) (n : Int) : Txt.mul z n = repS z n.toNat := by
  unfold Txt.mul
  split
  · rename_i h
    rw [show n.toNat = 0 by omega]
    rfl
  · split
    · rename_i h1 h2
      rcases Bool.or_eq_true_iff.mp h2 with h3 | h3
      · have : n = 1 := by simpa using h3
        subst this
        refine Str.ext' ?_
        unfold repS
        simp
      · have h4 : z.length = 0 := by simpa using h3
        have h5 : z.cps.toList = [] := List.eq_nil_of_length_eq_zero (by rw [Array.length_toList]; exact h4)
        refine Str.ext' ?_
        unfold repS
        rw [h5]
        have h6 : z.cps = #[] := by
          apply Array.toList_inj.mp
          rw [h5]
        rw [h6]
        simp
    · refine Str.ext' ?_
      apply Array.toList_inj.mp
      have e := foldl_app z.cps n.toNat #[]
      show ((List.replicate n.toNat z.cps).foldl (· ++ ·) #[]).toList = _
      rw [e]
      unfold repS
      simp
theorem mulOk_of {z : Str} {n : Int} (h1 : -(2 ^ 62) ≤ n) (h2 : n < 2 ^ 62) (h3 : z.length * n.toNat ≤ sizeLine) : MulOk z n := by
  have hz := sizeLine_eq
  refine ⟨by simp; omega, fun h _ => ?_, fun h _ => ?_⟩
  · have hn : 0 < n := by omega
    intro hgt
    have : (z.length : Int) ≤ (2 ^ 63 - 1) / n := by
      rw [Int.le_ediv_iff_mul_le hn]
      have : ((z.length * n.toNat : Nat) : Int) ≤ (sizeLine : Nat) := by exact_mod_cast h3
      rw [Int.natCast_mul, Int.toNat_of_nonneg (by omega), hz] at this
      omega
    omega
  · unfold Builtin.Str.tooLong
    simp
    exact h3
def mulS : D2
  | .str z, .int n, st => if Ok (-(2 ^ 62) ≤ n ∧ n < 2 ^ 62 ∧ z.length * n.toNat ≤ sizeLine) then .ok (.str (repS z n.toNat)) st else .bad
  | _, _, _ => .bad
theorem o_mulS {X : Cx} {Wx : WX} : OpD X Wx (binaryOp .Mult) mulS := by
  intro pins s σ w st x y vx vy v u Q I c rx ry rv ru h
  cases x with
  | str z =>
    cases y with
    | int n =>
      unfold Rel at rx ry
      subst rx ry
      obtain ⟨t, rfl⟩ := rv
      obtain ⟨t', rfl⟩ := ru
      have h2 : Post X.K (Rel X.K) w σ Wx Q (if Ok (-(2 ^ 62) ≤ n ∧ n < 2 ^ 62 ∧ z.length * n.toNat ≤ sizeLine) then .ok (.str (repS z n.toNat)) st else .bad) := h
      split at h2
      · rename_i hz
        refine SB.mul (mulOk_of hz.1 hz.2.1 hz.2.2) fun t' k => ?_
        rw [mul_rep]
        exact ⟨.str _, w.H, I.tok _, ⟨t', rfl⟩, h2 w _ (.refl _) (rel_str _ _) c⟩
      · exact h2.elim
    | _ => exact h.elim
  | _ => exact h.elim
def mulZ (lv : Bool) : D2 := fun x y st => if isStr x = true then mulS x y st else mulX lv x y st
theorem o_mulZ {X : Cx} {Wx : WX} {lv : Bool} : OpD X Wx (binaryOp .Mult) (mulZ lv) := OpD.ite (fun x _ _ => isStr x) o_mulS o_mulX
end ND
end
noncomputable section
namespace ND
open PySem L2
mutual
def toP : D → PyData
  | .bl b => .bool b
  | .int i => .int i
  | .str s => .str s
  | .tup xs => .tuple (toPs xs)
  | .lst xs => .list (toPs xs)
  | _ => .none
def toPs : List D → List PyData
  | [] => []
  | x :: xs => toP x :: toPs xs
end
mutual
/-- plain data; bs: bools may lie within -/
def okD (bs : Bool) : D → Bool
  | .non => true
  | .bl _ => bs
  | .int _ => true
  | .str _ => true
  | .tup xs => okDs bs xs
  | .lst xs => okDs bs xs
  | _ => false
def okDs (bs : Bool) : List D → Bool
  | [] => true
  | x :: xs => okD bs x && okDs bs xs
end
mutual
def depD : D → Nat
  | .tup xs => depDs xs + 1
  | .lst xs => depDs xs + 1
  | _ => 0
def depDs : List D → Nat
  | [] => 0
  | x :: xs => max (depD x) (depDs xs)
end
theorem okDs_iff {bs : Bool} : ∀ {xs : List D}, okDs bs xs = true ↔ ∀ x ∈ xs, okD bs x = true
  | [] => by simp [okDs]
  | x :: xs => by simp [okDs, okDs_iff (xs := xs)]
theorem depDs_le {n : Nat} : ∀ {xs : List D}, (∀ x ∈ xs, depD x ≤ n) → depDs xs ≤ n
  | [], _ => by simp [depDs]
  | x :: xs, h => by
    have h1 := h x List.mem_cons_self
    have h2 := depDs_le (xs := xs) fun y hy => h y (List.mem_cons_of_mem _ hy)
    simp only [depDs]
    omega
mutual
theorem okD_up : ∀ {d : D}, okD false d = true → okD true d = true
  | .non, _ => rfl
  | .bl _, _ => rfl
  | .int _, _ => rfl
  | .str _, _ => rfl
  | .tup xs, h => by unfold okD at h ⊢; exact okDs_up h
  | .lst xs, h => by unfold okD at h ⊢; exact okDs_up h
  | .ref _, h => by simp [okD] at h
  | .ins _ _ _, h => by simp [okD] at h
  | .dK _ _, h => by simp [okD] at h
  | .dT _ _, h => by simp [okD] at h
  | .glo _, h => by simp [okD] at h
  | .ty _, h => by simp [okD] at h
  | .ext _, h => by simp [okD] at h
  | .exc _ _ _, h => by simp [okD] at h
theorem okDs_up : ∀ {xs : List D}, okDs false xs = true → okDs true xs = true
  | [], _ => rfl
  | x :: xs, h => by
    simp only [okDs, Bool.and_eq_true] at h ⊢
    exact ⟨okD_up h.1, okDs_up h.2⟩
end
mutual
theorem pyF_toP : ∀ {d : D}, okD true d = true → pyF d = some (toP d) ∧ (∀ st, pyD st d = some (toP d)) ∧ (toP d).plain = true ∧ (toP d).depth = depD d
  | .non, _ => ⟨rfl, fun _ => rfl, rfl, rfl⟩
  | .bl _, _ => ⟨rfl, fun _ => rfl, rfl, rfl⟩
  | .int _, _ => ⟨rfl, fun _ => rfl, rfl, rfl⟩
  | .str _, _ => ⟨rfl, fun _ => rfl, rfl, rfl⟩
  | .tup xs, h => by
    unfold okD at h
    obtain ⟨h1, h2, h3, h4⟩ := pyFs_toP h
    exact ⟨by simp [pyF, h1, toP], fun st => by simp [pyD, h2, toP], by simpa [toP, PyData.plain] using h3, by simp [toP, PyData.depth, h4, depD]⟩
  | .lst xs, h => by
    unfold okD at h
    obtain ⟨h1, h2, h3, h4⟩ := pyFs_toP h
    exact ⟨by simp [pyF, h1, toP], fun st => by simp [pyD, h2, toP], by simpa [toP, PyData.plain] using h3, by simp [toP, PyData.depth, h4, depD]⟩
  | .ref _, h => by simp [okD] at h
  | .ins _ _ _, h => by simp [okD] at h
  | .dK _ _, h => by simp [okD] at h
  | .dT _ _, h => by simp [okD] at h
  | .glo _, h => by simp [okD] at h
  | .ty _, h => by simp [okD] at h
  | .ext _, h => by simp [okD] at h
  | .exc _ _ _, h => by simp [okD] at h
theorem pyFs_toP : ∀ {xs : List D}, okDs true xs = true → pyFs xs = some (toPs xs) ∧ (∀ st, pyDs st xs = some (toPs xs)) ∧ PyData.plainAll (toPs xs) = true ∧ PyData.depthAll (toPs xs) = depDs xs
  | [], _ => ⟨rfl, fun _ => rfl, rfl, rfl⟩
  | x :: xs, h => by
    simp only [okDs, Bool.and_eq_true] at h
    obtain ⟨a1, a2, a3, a4⟩ := pyF_toP h.1
    obtain ⟨b1, b2, b3, b4⟩ := pyFs_toP h.2
    exact ⟨by simp [pyFs, a1, b1, toPs], fun st => by simp [pyDs, a2, b2, toPs], by simp [toPs, PyData.plainAll, a3, b3], by simp [toPs, PyData.depthAll, a4, b4, depDs]⟩
end
mutual
theorem eqv_toP : ∀ {x y : D}, okD false x = true → okD false y = true → (PyData.eqv (toP x) (toP y) = true ↔ x = y)
  | .non, y, _, h => by cases y <;> simp_all [okD, toP, PyData.eqv]
  | .bl _, _, h, _ => by simp [okD] at h
  | .int i, y, _, h => by cases y <;> simp_all [okD, toP, PyData.eqv]
  | .str s, y, _, h => by cases y <;> simp_all [okD, toP, PyData.eqv]
  | .tup xs, y, h1, h => by
    cases y with
    | tup ys =>
      unfold okD at h1 h
      simp only [toP, PyData.eqv, D.tup.injEq]
      exact eqvs_toP h1 h
    | _ => simp_all [okD, toP, PyData.eqv]
  | .lst xs, y, h1, h => by
    cases y with
    | lst ys =>
      unfold okD at h1 h
      simp only [toP, PyData.eqv, D.lst.injEq]
      exact eqvs_toP h1 h
    | _ => simp_all [okD, toP, PyData.eqv]
  | .ref _, _, h, _ => by simp [okD] at h
  | .ins _ _ _, _, h, _ => by simp [okD] at h
  | .dK _ _, _, h, _ => by simp [okD] at h
  | .dT _ _, _, h, _ => by simp [okD] at h
  | .glo _, _, h, _ => by simp [okD] at h
  | .ty _, _, h, _ => by simp [okD] at h
  | .ext _, _, h, _ => by simp [okD] at h
  | .exc _ _ _, _, h, _ => by simp [okD] at h
theorem eqvs_toP : ∀ {xs ys : List D}, okDs false xs = true → okDs false ys = true → (PyData.eqvAll (toPs xs) (toPs ys) = true ↔ xs = ys)
  | [], [], _, _ => by simp [toPs, PyData.eqvAll]
  | [], _ :: _, _, _ => by simp [toPs, PyData.eqvAll]
  | _ :: _, [], _, _ => by simp [toPs, PyData.eqvAll]
  | x :: xs, y :: ys, h1, h2 => by
    simp only [okDs, Bool.and_eq_true] at h1 h2
    simp only [toPs, PyData.eqvAll, Bool.and_eq_true, List.cons.injEq]
    rw [eqv_toP h1.1 h2.1, eqvs_toP h1.2 h2.2]
end
theorem eqD_data {neg : Bool} {x y : D} {st : Sto} (h1 : okD false x = true) (h2 : okD false y = true) (h3 : depD x ≤ 60) : eqD neg x y st = .ok (.bl (if neg = true then !decide (Ok (x = y)) else decide (Ok (x = y)))) st := by
  obtain ⟨a1, a2, a3, a4⟩ := pyF_toP (okD_up h1)
  obtain ⟨b1, b2, b3, b4⟩ := pyF_toP (okD_up h2)
  rw [eq_gen (a2 st) (b2 st) (by rw [a4]; omega)]
  have e : PyData.eqv (toP x) (toP y) = decide (Ok (x = y)) := by
    have := eqv_toP h1 h2
    by_cases q : x = y
    · rw [this.mpr q]
      exact (decide_eq_true (p := Ok (x = y)) q).symm
    · have e1 : PyData.eqv (toP x) (toP y) = false := by
        cases e : PyData.eqv (toP x) (toP y) with
        | true => exact absurd (this.mp e) q
        | false => rfl
      rw [e1]
      exact (decide_eq_false (p := Ok (x = y)) q).symm
  rw [e]
theorem eqD_self {neg : Bool} {x : D} {st : Sto} (h1 : okD true x = true) (h3 : depD x ≤ 60) : eqD neg x x st = .ok (.bl (!neg)) st := by
  obtain ⟨a1, a2, a3, a4⟩ := pyF_toP h1
  rw [eq_gen (a2 st) (a2 st) (by rw [a4]; omega), PySem.SeqAt.eqv_refl_plain _ a3]
  cases neg <;> rfl
theorem eqD_ref {neg : Bool} {n : Nat} {xs : List D} {st : Sto} (h : st[n]? = some (.lst xs)) (h1 : okD true (.lst xs) = true) (h3 : depDs xs < 60) : eqD neg (.ref n) (.lst xs) st = .ok (.bl (!neg)) st := by
  obtain ⟨a1, a2, a3, a4⟩ := pyF_toP h1
  unfold okD at h1
  obtain ⟨b1, b2, b3, b4⟩ := pyFs_toP h1
  have e : pyD st (.ref n) = some (toP (.lst xs)) := by
    simp only [pyD, h, b1]
    rfl
  rw [eq_gen e (a2 st) (by rw [a4]; simp only [depD]; omega), PySem.SeqAt.eqv_refl_plain _ a3]
  cases neg <;> rfl
theorem eq_str {neg : Bool} {a c : Str} {st : Sto} : eqD neg (.str a) (.str c) st = .ok (.bl (if neg then !decide (a = c) else decide (a = c))) st := by
  rw [eqD_data rfl rfl (by simp [depD])]
  by_cases q : a = c
  · subst q
    rw [show decide (Ok (D.str a = D.str a)) = true from decide_eq_true (p := Ok _) rfl, decide_eq_true (rfl : a = a)]
  · rw [show decide (Ok (D.str a = D.str c)) = false from decide_eq_false (p := Ok _) (fun e => q (by cases e; rfl)), decide_eq_false q]
/-- told by whether they are one -/
theorem okEq {p : Prop} (h : p) : decide (Ok p) = true := decide_eq_true (p := Ok p) h
theorem okNe {p : Prop} (h : ¬ p) : decide (Ok p) = false := decide_eq_false (p := Ok p) h
end ND
end
namespace K83
open PySem L2 PyProof.Rows ND
def top (i : Nat) : Stmt := PySem.Challenge.pw_drawnlayers_k83_listings.main.body.getD i (.Pass ⟨0, 0, 0, 0⟩)
def sub (i j : Nat) : Stmt := (cbody (top i)).getD j (.Pass ⟨0, 0, 0, 0⟩)
abbrev ftL : FT := [("Listing", "_listed"), ("NumberedListing", "_listed"), ("TitledListing", "_listed"), ("FullListing", "_listed")]
abbrev csL : List String := ["Listing", "NumberedListing", "TitledListing", "FullListing"]
abbrev itL : IT := [((false, "NoneType"), (true, "FullListing"), false), ((false, "bool"), (true, "FullListing"), false), ((false, "int"), (true, "FullListing"), false), ((false, "str"), (true, "FullListing"), false), ((false, "tuple"), (true, "FullListing"), false), ((false, "list"), (true, "FullListing"), false), ((false, "dict"), (true, "FullListing"), false), ((true, "Listing"), (true, "FullListing"), false), ((true, "NumberedListing"), (true, "FullListing"), false), ((true, "TitledListing"), (true, "FullListing"), false), ((true, "FullListing"), (true, "FullListing"), true), ((false, "NoneType"), (true, "Listing"), false), ((false, "bool"), (true, "Listing"), false), ((false, "int"), (true, "Listing"), false), ((false, "str"), (true, "Listing"), false), ((false, "tuple"), (true, "Listing"), false), ((false, "list"), (true, "Listing"), false), ((false, "dict"), (true, "Listing"), false), ((true, "Listing"), (true, "Listing"), true), ((true, "NumberedListing"), (true, "Listing"), true), ((true, "TitledListing"), (true, "Listing"), true), ((true, "FullListing"), (true, "Listing"), true), ((false, "NoneType"), (true, "NumberedListing"), false), ((false, "bool"), (true, "NumberedListing"), false), ((false, "int"), (true, "NumberedListing"), false), ((false, "str"), (true, "NumberedListing"), false), ((false, "tuple"), (true, "NumberedListing"), false), ((false, "list"), (true, "NumberedListing"), false), ((false, "dict"), (true, "NumberedListing"), false), ((true, "Listing"), (true, "NumberedListing"), false), ((true, "NumberedListing"), (true, "NumberedListing"), true), ((true, "TitledListing"), (true, "NumberedListing"), false), ((true, "FullListing"), (true, "NumberedListing"), true), ((false, "NoneType"), (true, "TitledListing"), false), ((false, "bool"), (true, "TitledListing"), false), ((false, "int"), (true, "TitledListing"), false), ((false, "str"), (true, "TitledListing"), false), ((false, "tuple"), (true, "TitledListing"), false), ((false, "list"), (true, "TitledListing"), false), ((false, "dict"), (true, "TitledListing"), false), ((true, "Listing"), (true, "TitledListing"), false), ((true, "NumberedListing"), (true, "TitledListing"), false), ((true, "TitledListing"), (true, "TitledListing"), true), ((true, "FullListing"), (true, "TitledListing"), true), ((false, "NoneType"), (false, "list"), false), ((false, "bool"), (false, "list"), false), ((false, "int"), (false, "list"), false), ((false, "str"), (false, "list"), false), ((false, "tuple"), (false, "list"), false), ((false, "list"), (false, "list"), true), ((false, "dict"), (false, "list"), false), ((true, "Listing"), (false, "list"), false), ((true, "NumberedListing"), (false, "list"), false), ((true, "TitledListing"), (false, "list"), false), ((true, "FullListing"), (false, "list"), false), ((false, "NoneType"), (false, "str"), false), ((false, "bool"), (false, "str"), false), ((false, "int"), (false, "str"), false), ((false, "str"), (false, "str"), true), ((false, "tuple"), (false, "str"), false), ((false, "list"), (false, "str"), false), ((false, "dict"), (false, "str"), false), ((true, "Listing"), (false, "str"), false), ((true, "NumberedListing"), (false, "str"), false), ((true, "TitledListing"), (false, "str"), false), ((true, "FullListing"), (false, "str"), false)]
abbrev s__law_bag : Stmt := top 7
abbrev N__law_bag : List Str := ["script", "cell"]
abbrev P__law_bag : List Str := ["script"]
theorem sc__law_bag : FnScope N__law_bag P__law_bag (defScope s__law_bag) := ⟨rfl, rfl, rfl, by decide +kernel, rfl, by decide +kernel, by decide +kernel⟩
noncomputable def y__law_bag : MS := sRet (eLst true (aCons (eComp false (iVal (eVar 0)) (gNm 1) (bYes) (eC (i1 fun i => .int (absI i)) (aCons (eC intD (aCons (eVar 1) (aNil))) (aNil))) [1]) (aCons (eK (.int 0)) (aCons (eK (.int 0)) (aCons (eK (.int 0)) (aCons (eK (.int 0)) (aCons (eK (.int 0)) (aNil))))))))
noncomputable def m__law_bag : DF := fn 1 2 true y__law_bag
abbrev s__law_draw : Stmt := top 8
abbrev N__law_draw : List Str := ["bag", "many", "cell", "drawn", "first", "second", "third"]
abbrev P__law_draw : List Str := ["bag", "many"]
theorem sc__law_draw : FnScope N__law_draw P__law_draw (defScope s__law_draw) := ⟨rfl, rfl, rfl, by decide +kernel, rfl, by decide +kernel, by decide +kernel⟩
noncomputable def y__law_draw_7 : MS := sRet (e2 modI (eC intD (aCons (e2 divI (eVar 6) (eK (.int 3))) (aNil))) (eVar 1))
noncomputable def y__law_draw_6 : MS := sSeq (sSet 6 (e2 modI (eC intD (aCons (e2 addX (e2 (mulX false) (eVar 5) (eVar 5)) (e2 divI (eVar 5) (eK (.int 97)))) (aNil))) (eK (.int 2147483629)))) (y__law_draw_7)
noncomputable def y__law_draw_5 : MS := sSeq (sSet 5 (e2 modI (eC intD (aCons (e2 addX (e2 addX (e2 (mulX false) (eVar 4) (eVar 4)) (e2 (mulX false) (e2 ixD (eVar 0) (eK (.int 4))) (eK (.int 3571)))) (eK (.int 40692))) (aNil))) (eK (.int 2147483399)))) (y__law_draw_6)
noncomputable def y__law_draw_4 : MS := sSeq (sSet 4 (e2 modI (eC intD (aCons (e2 addX (e2 addX (e2 (mulX false) (e2 ixD (eVar 0) (eK (.int 3))) (eK (.int 48271))) (e2 (mulX false) (e2 ixD (eVar 0) (eK (.int 4))) (eK (.int 69621)))) (eK (.int 12345))) (aNil))) (eK (.int 2147483647)))) (y__law_draw_5)
noncomputable def y__law_draw_3 : MS := sSeq (sIf (toB (e2 gtI (e2 ixD (eVar 0) (eK (.int 5))) (eK (.int 0)))) (sSetIx (eVar 0) (eK (.int 5)) (e2 subI (e2 ixD (eVar 0) (eK (.int 5))) (eK (.int 1)))) (sNil)) (y__law_draw_4)
noncomputable def y__law_draw_2 : MS := sSeq (sSetIx (eVar 0) (eK (.int 4)) (e2 addX (e2 ixD (eVar 0) (eK (.int 4))) (eK (.int 1)))) (y__law_draw_3)
noncomputable def y__law_draw_1 : MS := sSeq (sIf (toB (e2 gtI (e2 ixD (eVar 0) (eK (.int 2))) (eK (.int 0)))) (sSeq (sSet 3 (e2 modI (eC intD (aCons (e2 ixD (eVar 0) (eK (.int 2))) (aNil))) (eVar 1))) (sSeq (sSetIx (eVar 0) (eK (.int 2)) (e2 divI (e2 ixD (eVar 0) (eK (.int 2))) (eVar 1))) (sRet (eVar 3)))) (sNil)) (y__law_draw_2)
noncomputable def y__law_draw : MS := sSeq (sIf (bAnd (toB (e2 (eqD false) (e2 ixD (eVar 0) (eK (.int 2))) (eK (.int 0)))) (bAnd (toB (e2 (eqD false) (e2 ixD (eVar 0) (eK (.int 5))) (eK (.int 0)))) (toB (e2 ltI (e2 ixD (eVar 0) (eK (.int 1))) (eC lenD (aCons (e2 ixD (eVar 0) (eK (.int 0))) (aNil))))))) (sSeq (sSet 2 (e2 ixD (e2 ixD (eVar 0) (eK (.int 0))) (e2 ixD (eVar 0) (eK (.int 1))))) (sSeq (sSetIx (eVar 0) (eK (.int 1)) (e2 addX (e2 ixD (eVar 0) (eK (.int 1))) (eK (.int 1)))) (sIf (toB (e2 geI (eVar 2) (e2 powI (eK (.int 10)) (eK (.int 18))))) (sSetIx (eVar 0) (eK (.int 2)) (eVar 2)) (sSeq (sSetIx (eVar 0) (eK (.int 3)) (e2 modI (eC intD (aCons (e2 addX (e2 (mulX false) (e2 ixD (eVar 0) (eK (.int 3))) (eK (.int 31))) (eVar 2)) (aNil))) (eK (.int 1000000007)))) (sSetIx (eVar 0) (eK (.int 5)) (eK (.int 5))))))) (sNil)) (y__law_draw_1)
noncomputable def m__law_draw : DF := fn 2 7 false y__law_draw
abbrev s__law_figure : Stmt := top 10
abbrev N__law_figure : List Str := ["bag", "way_of", "number"]
abbrev P__law_figure : List Str := ["bag"]
theorem sc__law_figure : FnScope N__law_figure P__law_figure (defScope s__law_figure) := ⟨rfl, rfl, rfl, by decide +kernel, rfl, by decide +kernel, by decide +kernel⟩
noncomputable def y__law_figure_4 : MS := sRet (eVar 2)
noncomputable def y__law_figure_3 : MS := sSeq (sIf (toB (e2 (eqD false) (eC m__law_draw (aCons (eVar 0) (aCons (eK (.int 3)) (aNil)))) (eK (.int 0)))) (sRet (e2 subI (eK (.int 0)) (eVar 2))) (sNil)) (y__law_figure_4)
noncomputable def y__law_figure_2 : MS := sSeq (sIf (toB (e2 (eqD false) (eVar 1) (eK (.int 1)))) (sSet 2 (e2 addX (eK (.int 99990)) (eC m__law_draw (aCons (eVar 0) (aCons (eK (.int 20)) (aNil)))))) (sIf (toB (e2 (eqD false) (eVar 1) (eK (.int 2)))) (sSet 2 (e2 addX (eK (.int 999990)) (eC m__law_draw (aCons (eVar 0) (aCons (eK (.int 20)) (aNil)))))) (sIf (toB (e2 (eqD false) (eVar 1) (eK (.int 3)))) (sSet 2 (eC m__law_draw (aCons (eVar 0) (aCons (eK (.int 1000000)) (aNil))))) (sIf (toB (e2 (eqD false) (eVar 1) (eK (.int 4)))) (sSet 2 (e2 addX (e2 (mulX false) (eC m__law_draw (aCons (eVar 0) (aCons (eK (.int 1000000)) (aNil)))) (eK (.int 1000000))) (eC m__law_draw (aCons (eVar 0) (aCons (eK (.int 1000000)) (aNil)))))) (sNil))))) (y__law_figure_3)
noncomputable def y__law_figure_1 : MS := sSeq (sSet 2 (eC m__law_draw (aCons (eVar 0) (aCons (eK (.int 11)) (aNil))))) (y__law_figure_2)
noncomputable def y__law_figure : MS := sSeq (sSet 1 (eC m__law_draw (aCons (eVar 0) (aCons (eK (.int 5)) (aNil))))) (y__law_figure_1)
noncomputable def m__law_figure : DF := fn 1 3 false y__law_figure
abbrev s__law_word : Stmt := top 9
abbrev N__law_word : List Str := ["bag", "letters", "word", "k"]
abbrev P__law_word : List Str := ["bag"]
theorem sc__law_word : FnScope N__law_word P__law_word (defScope s__law_word) := ⟨rfl, rfl, rfl, by decide +kernel, rfl, by decide +kernel, by decide +kernel⟩
noncomputable def y__law_word_3 : MS := sRet (eVar 2)
noncomputable def l1__law_word : MS := sSet 2 (e2 addX (eVar 2) (e2 ixD (eVar 1) (eC m__law_draw (aCons (eVar 0) (aCons (eK (.int 26)) (aNil))))))
noncomputable def y__law_word_2 : MS := sSeq (sFor (iR1 (e2 addX (eK (.int 1)) (eC m__law_draw (aCons (eVar 0) (aCons (eK (.int 6)) (aNil)))))) (gNm 3) (l1__law_word)) (y__law_word_3)
noncomputable def y__law_word_1 : MS := sSeq (sSet 2 (eK (.str ""))) (y__law_word_2)
noncomputable def y__law_word : MS := sSeq (sSet 1 (eK (.str "abcdefghijklmnopqrstuvwxyz"))) (y__law_word_1)
noncomputable def m__law_word : DF := fn 1 4 false y__law_word
abbrev s__law_box : Stmt := top 11
abbrev N__law_box : List Str := ["bag"]
abbrev P__law_box : List Str := ["bag"]
theorem sc__law_box : FnScope N__law_box P__law_box (defScope s__law_box) := ⟨rfl, rfl, rfl, by decide +kernel, rfl, by decide +kernel, by decide +kernel⟩
noncomputable def y__law_box : MS := sRet (eTup (aCons (eC m__law_word (aCons (eVar 0) (aNil))) (aCons (eC m__law_figure (aCons (eVar 0) (aNil))) (aCons (eC m__law_figure (aCons (eVar 0) (aNil))) (aCons (eC m__law_figure (aCons (eVar 0) (aNil))) (aCons (eC m__law_figure (aCons (eVar 0) (aNil))) (aNil)))))))
noncomputable def m__law_box : DF := fn 1 1 false y__law_box
abbrev s__law_named : Stmt := top 12
abbrev N__law_named : List Str := ["k", "letters"]
abbrev P__law_named : List Str := ["k"]
theorem sc__law_named : FnScope N__law_named P__law_named (defScope s__law_named) := ⟨rfl, rfl, rfl, by decide +kernel, rfl, by decide +kernel, by decide +kernel⟩
noncomputable def y__law_named_1 : MS := sRet (e2 addX (e2 addX (e2 ixD (eVar 1) (e2 divI (eVar 0) (eK (.int 676)))) (e2 ixD (eVar 1) (e2 modI (eC intD (aCons (e2 divI (eVar 0) (eK (.int 26))) (aNil))) (eK (.int 26))))) (e2 ixD (eVar 1) (e2 modI (eC intD (aCons (eVar 0) (aNil))) (eK (.int 26)))))
noncomputable def y__law_named : MS := sSeq (sSet 1 (eK (.str "abcdefghijklmnopqrstuvwxyz"))) (y__law_named_1)
noncomputable def m__law_named : DF := fn 1 2 false y__law_named
abbrev s__law_boxes : Stmt := top 13
abbrev N__law_boxes : List Str := ["bag", "large", "step", "k"]
abbrev P__law_boxes : List Str := ["bag", "large"]
theorem sc__law_boxes : FnScope N__law_boxes P__law_boxes (defScope s__law_boxes) := ⟨rfl, rfl, rfl, by decide +kernel, rfl, by decide +kernel, by decide +kernel⟩
noncomputable def y__law_boxes_1 : MS := sRet (eComp false (iR1 (eC m__law_draw (aCons (eVar 0) (aCons (eK (.int 7)) (aNil))))) (gNm 3) (bYes) (eC m__law_box (aCons (eVar 0) (aNil))) [3])
noncomputable def y__law_boxes : MS := sSeq (sIf (tru (eVar 1)) (sSeq (sSet 2 (eC m__law_figure (aCons (eVar 0) (aNil)))) (sRet (eComp false (iR1 (eC m__law_draw (aCons (eVar 0) (aCons (eK (.int 1101)) (aNil))))) (gNm 3) (bYes) (eTup (aCons (eC m__law_named (aCons (eVar 3) (aNil))) (aCons (eVar 3) (aCons (e2 (mulX false) (eVar 2) (eVar 3)) (aCons (e2 addX (eVar 3) (eK (.int 1))) (aCons (eK (.int 2)) (aNil))))))) [3]))) (sNil)) (y__law_boxes_1)
noncomputable def m__law_boxes : DF := fn 2 4 false y__law_boxes
abbrev s__law_padded : Stmt := top 14
abbrev N__law_padded : List Str := ["shown", "many"]
abbrev P__law_padded : List Str := ["shown", "many"]
theorem sc__law_padded : FnScope N__law_padded P__law_padded (defScope s__law_padded) := ⟨rfl, rfl, rfl, by decide +kernel, rfl, by decide +kernel, by decide +kernel⟩
noncomputable def y__law_padded : MS := sRet (e2 addX (e2 (mulZ false) (eK (.str " ")) (eC (i2f fun i j => .int (maxI i j)) (aCons (eK (.int 0)) (aCons (e2 subI (eVar 1) (eC lenD (aCons (eVar 0) (aNil)))) (aNil))))) (eVar 0))
noncomputable def m__law_padded : DF := fn 2 2 false y__law_padded
abbrev s__law_row : Stmt := top 15
abbrev N__law_row : List Str := ["box", "row", "number"]
abbrev P__law_row : List Str := ["box"]
theorem sc__law_row : FnScope N__law_row P__law_row (defScope s__law_row) := ⟨rfl, rfl, rfl, by decide +kernel, rfl, by decide +kernel, by decide +kernel⟩
noncomputable def y__law_row_2 : MS := sRet (eVar 1)
noncomputable def l1__law_row : MS := sSet 1 (e2 addX (eVar 1) (eC m__law_padded (aCons (eC strD (aCons (eVar 2) (aNil))) (aCons (eK (.int 6)) (aNil)))))
noncomputable def y__law_row_1 : MS := sSeq (sFor (iVal (eSl (eVar 0) (oSome (eK (.int 1))) (oNone))) (gNm 2) (l1__law_row)) (y__law_row_2)
noncomputable def y__law_row : MS := sSeq (sSet 1 (e2 addX (e2 ixD (eVar 0) (eK (.int 0))) (e2 (mulZ false) (eK (.str " ")) (eC (i2f fun i j => .int (maxI i j)) (aCons (eK (.int 0)) (aCons (e2 subI (eK (.int 6)) (eC lenD (aCons (e2 ixD (eVar 0) (eK (.int 0))) (aNil)))) (aNil))))))) (y__law_row_1)
noncomputable def m__law_row : DF := fn 1 3 false y__law_row
abbrev s__law_numbered : Stmt := top 16
abbrev N__law_numbered : List Str := ["rows", "k"]
abbrev P__law_numbered : List Str := ["rows"]
theorem sc__law_numbered : FnScope N__law_numbered P__law_numbered (defScope s__law_numbered) := ⟨rfl, rfl, rfl, by decide +kernel, rfl, by decide +kernel, by decide +kernel⟩
noncomputable def y__law_numbered : MS := sRet (eComp false (iR1 (eC lenD (aCons (eVar 0) (aNil)))) (gNm 1) (bYes) (e2 addX (e2 addX (eC m__law_padded (aCons (eC strD (aCons (eVar 1) (aNil))) (aCons (eK (.int 3)) (aNil)))) (eK (.str ": "))) (e2 ixD (eVar 0) (eVar 1))) [1])
noncomputable def m__law_numbered : DF := fn 1 2 false y__law_numbered
abbrev s__law_due : Stmt := top 17
abbrev N__law_due : List Str := ["boxes", "bare", "titled", "box"]
abbrev P__law_due : List Str := ["boxes"]
theorem sc__law_due : FnScope N__law_due P__law_due (defScope s__law_due) := ⟨rfl, rfl, rfl, by decide +kernel, rfl, by decide +kernel, by decide +kernel⟩
noncomputable def y__law_due_2 : MS := sRet (eLst false (aCons (eVar 1) (aCons (eC m__law_numbered (aCons (eVar 1) (aNil))) (aCons (eVar 2) (aCons (eC m__law_numbered (aCons (eVar 2) (aNil))) (aNil))))))
noncomputable def y__law_due_1 : MS := sSeq (sSet 2 (e2 addX (eLst false (aCons (e2 addX (eK (.str "boxes: ")) (eC strD (aCons (eC lenD (aCons (eVar 0) (aNil))) (aNil)))) (aNil))) (eVar 1))) (y__law_due_2)
noncomputable def y__law_due : MS := sSeq (sSet 1 (eComp false (iVal (eVar 0)) (gNm 3) (bYes) (eC m__law_row (aCons (eVar 3) (aNil))) [3])) (y__law_due_1)
noncomputable def m__law_due : DF := fn 1 4 false y__law_due
abbrev s_Listinguu_inituu : Stmt := sub 1 0
abbrev N_Listinguu_inituu : List Str := ["self", "boxes"]
abbrev P_Listinguu_inituu : List Str := ["self", "boxes"]
theorem sc_Listinguu_inituu : FnScope N_Listinguu_inituu P_Listinguu_inituu (defScope s_Listinguu_inituu) := ⟨rfl, rfl, rfl, by decide +kernel, rfl, by decide +kernel, by decide +kernel⟩
noncomputable def y_Listinguu_inituu : MS := sFldD ftL "_listed" (eVar 0) (eC tupD (aCons (eVar 1) (aNil)))
noncomputable def m_Listinguu_inituu : DF := fn 2 2 false y_Listinguu_inituu
abbrev s__law_made : Stmt := top 18
abbrev N__law_made : List Str := ["boxes", "first", "second", "objects", "kept"]
abbrev P__law_made : List Str := ["boxes"]
theorem sc__law_made : FnScope N__law_made P__law_made (defScope s__law_made) := ⟨rfl, rfl, rfl, by decide +kernel, rfl, by decide +kernel, by decide +kernel⟩
noncomputable def y__law_made_8 : MS := sRet (eVar 3)
noncomputable def y__law_made_7 : MS := sSeq (sIf (bNot (tru (eVar 4))) (sRet (eK .non)) (sNil)) (y__law_made_8)
noncomputable def y__law_made_6 : MS := sSeq (sDrop (eBM appendD (eVar 2) (aCons (eTup (aCons (eK (.str "zz")) (aCons (eK (.int 1)) (aCons (eK (.int 2)) (aCons (eK (.int 3)) (aCons (eK (.int 4)) (aNil))))))) aNil))) (y__law_made_7)
noncomputable def y__law_made_5 : MS := sSeq (sDrop (eBM reverseD (eVar 2) aNil)) (y__law_made_6)
noncomputable def y__law_made_4 : MS := sSeq (sDrop (eBM appendD (eVar 1) (aCons (eTup (aCons (eK (.str "zz")) (aCons (eK (.int 1)) (aCons (eK (.int 2)) (aCons (eK (.int 3)) (aCons (eK (.int 4)) (aNil))))))) aNil))) (y__law_made_5)
noncomputable def y__law_made_3 : MS := sSeq (sSet 4 (eAnd (e2 (eqD false) (eVar 1) (eVar 0)) (e2 (eqD false) (eVar 2) (eVar 0)))) (y__law_made_4)
noncomputable def y__law_made_2 : MS := sSeq (sSet 3 (eLst false (aCons (eC (mkI "Listing" m_Listinguu_inituu false) (aCons (eVar 1) (aNil))) (aCons (eC (mkI "NumberedListing" m_Listinguu_inituu false) (aCons (eC tupD (aCons (eVar 0) (aNil))) (aNil))) (aCons (eC (mkI "TitledListing" m_Listinguu_inituu false) (aCons (eVar 2) (aNil))) (aCons (eC (mkI "FullListing" m_Listinguu_inituu false) (aCons (eVar 1) (aNil))) (aNil))))))) (y__law_made_3)
noncomputable def y__law_made_1 : MS := sSeq (sSet 2 (eC (listD true) (aCons (eVar 0) (aNil)))) (y__law_made_2)
noncomputable def y__law_made : MS := sSeq (sSet 1 (eC (listD true) (aCons (eVar 0) (aNil)))) (y__law_made_1)
noncomputable def m__law_made : DF := fn 1 5 false y__law_made
abbrev s_Listing_rows : Stmt := sub 1 1
abbrev N_Listing_rows : List Str := ["self", "name", "x", "y", "w", "h"]
abbrev P_Listing_rows : List Str := ["self"]
theorem sc_Listing_rows : FnScope N_Listing_rows P_Listing_rows (defScope s_Listing_rows) := ⟨rfl, rfl, rfl, by decide +kernel, rfl, by decide +kernel, by decide +kernel⟩
noncomputable def y_Listing_rows : MS := sRet (eComp false (iVal (eFld ftL "_listed" (eVar 0))) (gTu 5 (gsCons (gNm 1) (gsCons (gNm 2) (gsCons (gNm 3) (gsCons (gNm 4) (gsCons (gNm 5) (gsNil))))))) (bYes) (eJs [eFmtL 6 (eVar 1), eFmtR 6 (eVar 2), eFmtR 6 (eVar 3), eFmtR 6 (eVar 4), eFmtR 6 (eVar 5)]) [1, 2, 3, 4, 5])
noncomputable def m_Listing_rows : DF := fn 1 6 false y_Listing_rows
noncomputable def yL_Listing_rows : MS := sRet (eComp true (iVal (eFld ftL "_listed" (eVar 0))) (gTu 5 (gsCons (gNm 1) (gsCons (gNm 2) (gsCons (gNm 3) (gsCons (gNm 4) (gsCons (gNm 5) (gsNil))))))) (bYes) (eJs [eFmtL 6 (eVar 1), eFmtR 6 (eVar 2), eFmtR 6 (eVar 3), eFmtR 6 (eVar 4), eFmtR 6 (eVar 5)]) [1, 2, 3, 4, 5])
noncomputable def mL_Listing_rows : DF := fn 1 6 true yL_Listing_rows
abbrev s__numbered : Stmt := top 5
abbrev N__numbered : List Str := ["rows", "number", "row"]
abbrev P__numbered : List Str := ["rows"]
theorem sc__numbered : FnScope N__numbered P__numbered (defScope s__numbered) := ⟨rfl, rfl, rfl, by decide +kernel, rfl, by decide +kernel, by decide +kernel⟩
noncomputable def y__numbered : MS := sRet (eComp false (iEnumD (eVar 0)) (gTu 2 (gsCons (gNm 1) (gsCons (gNm 2) (gsNil)))) (bYes) (eJs [eFmtR 3 (eVar 1), eK (.str ": "), eFmt (eVar 2)]) [1, 2])
noncomputable def m__numbered : DF := fn 1 3 false y__numbered
noncomputable def yL__numbered : MS := sRet (eComp true (iEnumD (eVar 0)) (gTu 2 (gsCons (gNm 1) (gsCons (gNm 2) (gsNil)))) (bYes) (eJs [eFmtR 3 (eVar 1), eK (.str ": "), eFmt (eVar 2)]) [1, 2])
noncomputable def mL__numbered : DF := fn 1 3 true yL__numbered
abbrev s_TitledListing_rows : Stmt := sub 3 0
abbrev N_TitledListing_rows : List Str := ["self"]
abbrev P_TitledListing_rows : List Str := ["self"]
noncomputable def y_TitledListing_rows : MS := sRet (eLst false (aCons (eJs [eK (.str "boxes: "), eFmt (eC lenD (aCons (eFld ftL "_listed" (eVar 0)) (aNil)))]) (aStar (eSup [("TitledListing", "rows", m_Listing_rows), ("FullListing", "rows", m_Listing_rows)] "rows") aNil)))
noncomputable def m_TitledListing_rows : DF := fn 1 2 false y_TitledListing_rows
noncomputable def yL_TitledListing_rows : MS := sRet (eLst true (aCons (eJs [eK (.str "boxes: "), eFmt (eC lenD (aCons (eFld ftL "_listed" (eVar 0)) (aNil)))]) (aStar (eSup [("TitledListing", "rows", m_Listing_rows), ("FullListing", "rows", m_Listing_rows)] "rows") aNil)))
noncomputable def mL_TitledListing_rows : DF := fn 1 2 true yL_TitledListing_rows
abbrev s_NumberedListing_rows : Stmt := sub 2 0
abbrev N_NumberedListing_rows : List Str := ["self"]
abbrev P_NumberedListing_rows : List Str := ["self"]
noncomputable def y_NumberedListing_rows : MS := sRet (eC m__numbered (aCons (eSup [("NumberedListing", "rows", m_Listing_rows), ("FullListing", "rows", m_TitledListing_rows)] "rows") aNil))
noncomputable def m_NumberedListing_rows : DF := fn 1 2 false y_NumberedListing_rows
noncomputable def yL_NumberedListing_rows : MS := sRet (eC mL__numbered (aCons (eSup [("NumberedListing", "rows", m_Listing_rows), ("FullListing", "rows", m_TitledListing_rows)] "rows") aNil))
noncomputable def mL_NumberedListing_rows : DF := fn 1 2 true yL_NumberedListing_rows
abbrev s_FullListing_rows : Stmt := sub 4 0
abbrev N_FullListing_rows : List Str := ["self"]
abbrev P_FullListing_rows : List Str := ["self"]
noncomputable def y_FullListing_rows : MS := sRet (eSup [("FullListing", "rows", m_NumberedListing_rows)] "rows")
noncomputable def m_FullListing_rows : DF := fn 1 2 false y_FullListing_rows
noncomputable def yL_FullListing_rows : MS := sRet (eSup [("FullListing", "rows", mL_NumberedListing_rows)] "rows")
noncomputable def mL_FullListing_rows : DF := fn 1 2 true yL_FullListing_rows
abbrev s__law_told : Stmt := top 19
abbrev N__law_told : List Str := ["got", "due", "k"]
abbrev P__law_told : List Str := ["got", "due"]
theorem sc__law_told : FnScope N__law_told P__law_told (defScope s__law_told) := ⟨rfl, rfl, rfl, by decide +kernel, rfl, by decide +kernel, by decide +kernel⟩
noncomputable def y__law_told_2 : MS := sRet (eK (.bl true))
noncomputable def l1__law_told : MS := sIf (bOr (bNot (tru (eC (isiD csL itL) (aCons (e2 ixD (eVar 0) (eVar 2)) (aCons (eK (.ty "str")) (aNil)))))) (toB (e2 (eqD true) (e2 ixD (eVar 0) (eVar 2)) (e2 ixD (eVar 1) (eVar 2))))) (sRet (eK (.bl false))) (sNil)
noncomputable def y__law_told_1 : MS := sSeq (sFor (iR1 (eC lenD (aCons (eVar 1) (aNil)))) (gNm 2) (l1__law_told)) (y__law_told_2)
noncomputable def y__law_told : MS := sSeq (sIf (bOr (bNot (tru (eC (isiD csL itL) (aCons (eVar 0) (aCons (eK (.ty "list")) (aNil)))))) (toB (e2 (eqD true) (eC lenD (aCons (eVar 0) (aNil))) (eC lenD (aCons (eVar 1) (aNil)))))) (sRet (eK (.bl false))) (sNil)) (y__law_told_1)
noncomputable def m__law_told : DF := fn 2 3 false y__law_told
abbrev s__law_kinds : Stmt := top 20
abbrev N__law_kinds : List Str := ["one", "kinds"]
abbrev P__law_kinds : List Str := ["one"]
theorem sc__law_kinds : FnScope N__law_kinds P__law_kinds (defScope s__law_kinds) := ⟨rfl, rfl, rfl, by decide +kernel, rfl, by decide +kernel, by decide +kernel⟩
noncomputable def y__law_kinds_1 : MS := sRet (e2 addX (eVar 1) (eLst false (aCons (eC (isiD csL itL) (aCons (eVar 0) (aCons (eK (.glo "TitledListing")) (aNil)))) (aCons (eC (isiD csL itL) (aCons (eVar 0) (aCons (eK (.glo "FullListing")) (aNil)))) (aNil)))))
noncomputable def y__law_kinds : MS := sSeq (sSet 1 (eLst false (aCons (eC (isiD csL itL) (aCons (eVar 0) (aCons (eK (.glo "Listing")) (aNil)))) (aCons (eC (isiD csL itL) (aCons (eVar 0) (aCons (eK (.glo "NumberedListing")) (aNil)))) (aNil))))) (y__law_kinds_1)
noncomputable def m__law_kinds : DF := fn 1 2 false y__law_kinds
abbrev s_law : Stmt := top 21
abbrev N_law : List Str := ["script", "bag", "boxes", "others", "due", "due_others", "objects", "beside", "kinds", "turn", "k", "got"]
abbrev P_law : List Str := ["script"]
theorem sc_law : FnScope N_law P_law (defScope s_law) := ⟨rfl, rfl, rfl, by decide +kernel, rfl, by decide +kernel, by decide +kernel⟩
noncomputable def y_law_11 : MS := sRet (eK (.bl true))
noncomputable def l2_law_6 : MS := sDrop (eBM clearD (eVar 11) aNil)
noncomputable def l2_law_5 : MS := sSeq (sIf (bOr (bNot (tru (eC m__law_told (aCons (eVar 11) (aCons (e2 ixD (eVar 5) (eVar 10)) (aNil)))))) (toB (e2 (eqD true) (eC m__law_kinds (aCons (e2 ixD (eVar 7) (eVar 10)) (aNil))) (e2 ixD (eVar 8) (eVar 10))))) (sRet (eK (.bl false))) (sNil)) (l2_law_6)
noncomputable def l2_law_4 : MS := sSeq (sSet 11 (eMeth [("Listing", "rows", mL_Listing_rows), ("NumberedListing", "rows", mL_NumberedListing_rows), ("TitledListing", "rows", mL_TitledListing_rows), ("FullListing", "rows", mL_FullListing_rows)] "rows" (e2 ixD (eVar 7) (eVar 10)) aNil)) (l2_law_5)
noncomputable def l2_law_3 : MS := sSeq (sDrop (eBM appendD (eVar 11) (aCons (eK (.str "")) aNil))) (l2_law_4)
noncomputable def l2_law_2 : MS := sSeq (sDrop (eBM reverseD (eVar 11) aNil)) (l2_law_3)
noncomputable def l2_law_1 : MS := sSeq (sIf (bOr (bNot (tru (eC m__law_told (aCons (eVar 11) (aCons (e2 ixD (eVar 4) (eVar 10)) (aNil)))))) (toB (e2 (eqD true) (eC m__law_kinds (aCons (e2 ixD (eVar 6) (eVar 10)) (aNil))) (e2 ixD (eVar 8) (eVar 10))))) (sRet (eK (.bl false))) (sNil)) (l2_law_2)
noncomputable def l2_law : MS := sSeq (sSet 11 (eMeth [("Listing", "rows", mL_Listing_rows), ("NumberedListing", "rows", mL_NumberedListing_rows), ("TitledListing", "rows", mL_TitledListing_rows), ("FullListing", "rows", mL_FullListing_rows)] "rows" (e2 ixD (eVar 6) (eVar 10)) aNil)) (l2_law_1)
noncomputable def l1_law : MS := sFor (iR1 (eK (.int 4))) (gNm 10) (l2_law)
noncomputable def y_law_10 : MS := sSeq (sFor (iR1 (eK (.int 2))) (gNm 9) (l1_law)) (y_law_11)
noncomputable def y_law_9 : MS := sSeq (sSet 8 (e2 addX (eVar 8) (eLst false (aCons (eLst false (aCons (eK (.bl true)) (aCons (eK (.bl false)) (aCons (eK (.bl true)) (aCons (eK (.bl false)) (aNil)))))) (aCons (eLst false (aCons (eK (.bl true)) (aCons (eK (.bl true)) (aCons (eK (.bl true)) (aCons (eK (.bl true)) (aNil)))))) (aNil)))))) (y_law_10)
noncomputable def y_law_8 : MS := sSeq (sSet 8 (eLst false (aCons (eLst false (aCons (eK (.bl true)) (aCons (eK (.bl false)) (aCons (eK (.bl false)) (aCons (eK (.bl false)) (aNil)))))) (aCons (eLst false (aCons (eK (.bl true)) (aCons (eK (.bl true)) (aCons (eK (.bl false)) (aCons (eK (.bl false)) (aNil)))))) (aNil))))) (y_law_9)
noncomputable def y_law_7 : MS := sSeq (sIf (bOr (toB (e2 (isN false) (eVar 6) (eK .non))) (toB (e2 (isN false) (eVar 7) (eK .non)))) (sRet (eK (.bl false))) (sNil)) (y_law_8)
noncomputable def y_law_6 : MS := sSeq (sSet 7 (eC m__law_made (aCons (eVar 3) (aNil)))) (y_law_7)
noncomputable def y_law_5 : MS := sSeq (sSet 6 (eC m__law_made (aCons (eVar 2) (aNil)))) (y_law_6)
noncomputable def y_law_4 : MS := sSeq (sSet 5 (eC m__law_due (aCons (eVar 3) (aNil)))) (y_law_5)
noncomputable def y_law_3 : MS := sSeq (sSet 4 (eC m__law_due (aCons (eVar 2) (aNil)))) (y_law_4)
noncomputable def y_law_2 : MS := sSeq (sSet 3 (eC m__law_boxes (aCons (eVar 1) (aCons (eK (.bl false)) (aNil))))) (y_law_3)
noncomputable def y_law_1 : MS := sSeq (sSet 2 (eC m__law_boxes (aCons (eVar 1) (aCons (e2 (eqD false) (eC m__law_draw (aCons (eVar 1) (aCons (eK (.int 32)) (aNil)))) (eK (.int 7))) (aNil))))) (y_law_2)
noncomputable def y_law : MS := sSeq (sSet 1 (eC m__law_bag (aCons (eVar 0) (aNil)))) (y_law_1)
noncomputable def m_law : DF := fn 1 12 false y_law
def dd__law_bag : He.DefD := ⟨("_law_bag", none), "_law_bag", "_law_bag", defArgs s__law_bag, defBody s__law_bag, defScope s__law_bag, [], []⟩
def dd__law_draw : He.DefD := ⟨("_law_draw", none), "_law_draw", "_law_draw", defArgs s__law_draw, defBody s__law_draw, defScope s__law_draw, [], []⟩
def dd__law_figure : He.DefD := ⟨("_law_figure", none), "_law_figure", "_law_figure", defArgs s__law_figure, defBody s__law_figure, defScope s__law_figure, [], []⟩
def dd__law_word : He.DefD := ⟨("_law_word", none), "_law_word", "_law_word", defArgs s__law_word, defBody s__law_word, defScope s__law_word, [], []⟩
def dd__law_box : He.DefD := ⟨("_law_box", none), "_law_box", "_law_box", defArgs s__law_box, defBody s__law_box, defScope s__law_box, [], []⟩
def dd__law_named : He.DefD := ⟨("_law_named", none), "_law_named", "_law_named", defArgs s__law_named, defBody s__law_named, defScope s__law_named, [], []⟩
def dd__law_boxes : He.DefD := ⟨("_law_boxes", none), "_law_boxes", "_law_boxes", defArgs s__law_boxes, defBody s__law_boxes, defScope s__law_boxes, [], []⟩
def dd__law_padded : He.DefD := ⟨("_law_padded", none), "_law_padded", "_law_padded", defArgs s__law_padded, defBody s__law_padded, defScope s__law_padded, [], []⟩
def dd__law_row : He.DefD := ⟨("_law_row", none), "_law_row", "_law_row", defArgs s__law_row, defBody s__law_row, defScope s__law_row, [], []⟩
def dd__law_numbered : He.DefD := ⟨("_law_numbered", none), "_law_numbered", "_law_numbered", defArgs s__law_numbered, defBody s__law_numbered, defScope s__law_numbered, [], []⟩
def dd__law_due : He.DefD := ⟨("_law_due", none), "_law_due", "_law_due", defArgs s__law_due, defBody s__law_due, defScope s__law_due, [], []⟩
def dd_Listinguu_inituu : He.DefD := ⟨("Listing", some "__init__"), "__init__", "Listing.__init__", defArgs s_Listinguu_inituu, defBody s_Listinguu_inituu, defScope s_Listinguu_inituu, [], []⟩
def dd__law_made : He.DefD := ⟨("_law_made", none), "_law_made", "_law_made", defArgs s__law_made, defBody s__law_made, defScope s__law_made, [], []⟩
def dd_Listing_rows : He.DefD := ⟨("Listing", some "rows"), "rows", "Listing.rows", defArgs s_Listing_rows, defBody s_Listing_rows, defScope s_Listing_rows, [], []⟩
def dd__numbered : He.DefD := ⟨("_numbered", none), "_numbered", "_numbered", defArgs s__numbered, defBody s__numbered, defScope s__numbered, [], []⟩
def ds_TitledListing_rows : DefS := ⟨("TitledListing", some "rows"), "rows", "TitledListing.rows", defArgs s_TitledListing_rows, defBody s_TitledListing_rows, defScope s_TitledListing_rows, "TitledListing", none⟩
def ds_NumberedListing_rows : DefS := ⟨("NumberedListing", some "rows"), "rows", "NumberedListing.rows", defArgs s_NumberedListing_rows, defBody s_NumberedListing_rows, defScope s_NumberedListing_rows, "NumberedListing", none⟩
def ds_FullListing_rows : DefS := ⟨("FullListing", some "rows"), "rows", "FullListing.rows", defArgs s_FullListing_rows, defBody s_FullListing_rows, defScope s_FullListing_rows, "FullListing", none⟩
def dd__law_told : He.DefD := ⟨("_law_told", none), "_law_told", "_law_told", defArgs s__law_told, defBody s__law_told, defScope s__law_told, [], []⟩
def dd__law_kinds : He.DefD := ⟨("_law_kinds", none), "_law_kinds", "_law_kinds", defArgs s__law_kinds, defBody s__law_kinds, defScope s__law_kinds, [], []⟩
def dd_law : He.DefD := ⟨("law", none), "law", "law", defArgs s_law, defBody s_law, defScope s_law, [], []⟩
def fn : List He.DefD := [dd__law_bag, dd__law_draw, dd__law_figure, dd__law_word, dd__law_box, dd__law_named, dd__law_boxes, dd__law_padded, dd__law_row, dd__law_numbered, dd__law_due, dd_Listinguu_inituu, dd__law_made, dd_Listing_rows, dd__numbered, dd__law_told, dd__law_kinds, dd_law]
def fs : List DefS := [ds_TitledListing_rows, ds_NumberedListing_rows, ds_FullListing_rows]
def fa : List He.Fa := [.free "abs", .free "int", .free "len", .free "range", .free "max", .free "str", .free "tuple", .free "list", .free "enumerate", .free "super", .free "isinstance", .glo "FullListing", .glo "TitledListing", .glo "NumberedListing", .glo "Listing", .cls "FullListing", .noat "FullListing" "_listed", .cls "TitledListing", .noat "TitledListing" "_listed", .cls "NumberedListing", .noat "NumberedListing" "_listed", .cls "Listing", .noat "Listing" "_listed", .glo "_law_bag", .glo "_law_draw", .glo "_law_figure", .glo "_law_word", .glo "_law_box", .glo "_law_named", .glo "_law_boxes", .glo "_law_padded", .glo "_law_row", .glo "_law_numbered", .glo "_law_due", .mkr "Listing", .mkr "NumberedListing", .mkr "TitledListing", .mkr "FullListing", .glo "_law_made", .meth "Listing" "rows", .glo "_numbered", .meth "TitledListing" "rows", .meth "NumberedListing" "rows", .meth "FullListing" "rows", .glo "_law_told", .glo "_law_kinds", .glo "law"]
def xf : XF := fun K => [decide (PySem.W.mroIn K (He.ga K "FullListing") (.ref (He.ga K "TitledListing")) = some true), He.eqO (PySem.W.ks_superIn K (He.ga K "FullListing") (He.ga K "TitledListing") "rows") (some (some (.ref (He.fAd K ("Listing", some "rows"))))), decide (PySem.W.typeIn K (.ref (He.fAd K ("Listing", some "rows"))) = some (.type "function")), PySem.W.fnIn K (He.fAd K ("Listing", some "rows")), decide (PySem.W.mroIn K (He.ga K "TitledListing") (.ref (He.ga K "TitledListing")) = some true), He.eqO (PySem.W.ks_superIn K (He.ga K "TitledListing") (He.ga K "TitledListing") "rows") (some (some (.ref (He.fAd K ("Listing", some "rows"))))), (PySem.W.clsIn K (He.ga K "TitledListing")).isSome, He.eqO (PySem.W.nsIn K cStatics "thirdparty.any") (some none), decide (PySem.W.mroIn K (He.ga K "FullListing") (.ref (He.ga K "NumberedListing")) = some true), He.eqO (PySem.W.ks_superIn K (He.ga K "FullListing") (He.ga K "NumberedListing") "rows") (some (some (.ref (He.fAd K ("TitledListing", some "rows"))))), decide (PySem.W.typeIn K (.ref (He.fAd K ("TitledListing", some "rows"))) = some (.type "function")), PySem.W.fnIn K (He.fAd K ("TitledListing", some "rows")), decide (PySem.W.mroIn K (He.ga K "NumberedListing") (.ref (He.ga K "NumberedListing")) = some true), He.eqO (PySem.W.ks_superIn K (He.ga K "NumberedListing") (He.ga K "NumberedListing") "rows") (some (some (.ref (He.fAd K ("Listing", some "rows"))))), (PySem.W.clsIn K (He.ga K "NumberedListing")).isSome, decide (PySem.W.mroIn K (He.ga K "FullListing") (.ref (He.ga K "FullListing")) = some true), He.eqO (PySem.W.ks_superIn K (He.ga K "FullListing") (He.ga K "FullListing") "rows") (some (some (.ref (He.fAd K ("NumberedListing", some "rows"))))), decide (PySem.W.typeIn K (.ref (He.fAd K ("NumberedListing", some "rows"))) = some (.type "function")), PySem.W.fnIn K (He.fAd K ("NumberedListing", some "rows")), (PySem.W.clsIn K (He.ga K "FullListing")).isSome, decide (PySem.W.kitOne K (.type "NoneType") (.ref (He.ga K "FullListing")) = some false), decide (PySem.W.kitOne K (.type "bool") (.ref (He.ga K "FullListing")) = some false), decide (PySem.W.kitOne K (.type "int") (.ref (He.ga K "FullListing")) = some false), decide (PySem.W.kitOne K (.type "str") (.ref (He.ga K "FullListing")) = some false), decide (PySem.W.kitOne K (.type "tuple") (.ref (He.ga K "FullListing")) = some false), decide (PySem.W.kitOne K (.type "list") (.ref (He.ga K "FullListing")) = some false), decide (PySem.W.kitOne K (.type "dict") (.ref (He.ga K "FullListing")) = some false), decide (PySem.W.kitOne K (.ref (He.ga K "Listing")) (.ref (He.ga K "FullListing")) = some false), decide (PySem.W.kitOne K (.ref (He.ga K "NumberedListing")) (.ref (He.ga K "FullListing")) = some false), decide (PySem.W.kitOne K (.ref (He.ga K "TitledListing")) (.ref (He.ga K "FullListing")) = some false), decide (PySem.W.kitOne K (.ref (He.ga K "FullListing")) (.ref (He.ga K "FullListing")) = some true), decide (PySem.W.kitOne K (.type "NoneType") (.ref (He.ga K "Listing")) = some false), decide (PySem.W.kitOne K (.type "bool") (.ref (He.ga K "Listing")) = some false), decide (PySem.W.kitOne K (.type "int") (.ref (He.ga K "Listing")) = some false), decide (PySem.W.kitOne K (.type "str") (.ref (He.ga K "Listing")) = some false), decide (PySem.W.kitOne K (.type "tuple") (.ref (He.ga K "Listing")) = some false), decide (PySem.W.kitOne K (.type "list") (.ref (He.ga K "Listing")) = some false), decide (PySem.W.kitOne K (.type "dict") (.ref (He.ga K "Listing")) = some false), decide (PySem.W.kitOne K (.ref (He.ga K "Listing")) (.ref (He.ga K "Listing")) = some true), decide (PySem.W.kitOne K (.ref (He.ga K "NumberedListing")) (.ref (He.ga K "Listing")) = some true), decide (PySem.W.kitOne K (.ref (He.ga K "TitledListing")) (.ref (He.ga K "Listing")) = some true), decide (PySem.W.kitOne K (.ref (He.ga K "FullListing")) (.ref (He.ga K "Listing")) = some true), decide (PySem.W.kitOne K (.type "NoneType") (.ref (He.ga K "NumberedListing")) = some false), decide (PySem.W.kitOne K (.type "bool") (.ref (He.ga K "NumberedListing")) = some false), decide (PySem.W.kitOne K (.type "int") (.ref (He.ga K "NumberedListing")) = some false), decide (PySem.W.kitOne K (.type "str") (.ref (He.ga K "NumberedListing")) = some false), decide (PySem.W.kitOne K (.type "tuple") (.ref (He.ga K "NumberedListing")) = some false), decide (PySem.W.kitOne K (.type "list") (.ref (He.ga K "NumberedListing")) = some false), decide (PySem.W.kitOne K (.type "dict") (.ref (He.ga K "NumberedListing")) = some false), decide (PySem.W.kitOne K (.ref (He.ga K "Listing")) (.ref (He.ga K "NumberedListing")) = some false), decide (PySem.W.kitOne K (.ref (He.ga K "NumberedListing")) (.ref (He.ga K "NumberedListing")) = some true), decide (PySem.W.kitOne K (.ref (He.ga K "TitledListing")) (.ref (He.ga K "NumberedListing")) = some false), decide (PySem.W.kitOne K (.ref (He.ga K "FullListing")) (.ref (He.ga K "NumberedListing")) = some true), decide (PySem.W.kitOne K (.type "NoneType") (.ref (He.ga K "TitledListing")) = some false), decide (PySem.W.kitOne K (.type "bool") (.ref (He.ga K "TitledListing")) = some false), decide (PySem.W.kitOne K (.type "int") (.ref (He.ga K "TitledListing")) = some false), decide (PySem.W.kitOne K (.type "str") (.ref (He.ga K "TitledListing")) = some false), decide (PySem.W.kitOne K (.type "tuple") (.ref (He.ga K "TitledListing")) = some false), decide (PySem.W.kitOne K (.type "list") (.ref (He.ga K "TitledListing")) = some false), decide (PySem.W.kitOne K (.type "dict") (.ref (He.ga K "TitledListing")) = some false), decide (PySem.W.kitOne K (.ref (He.ga K "Listing")) (.ref (He.ga K "TitledListing")) = some false), decide (PySem.W.kitOne K (.ref (He.ga K "NumberedListing")) (.ref (He.ga K "TitledListing")) = some false), decide (PySem.W.kitOne K (.ref (He.ga K "TitledListing")) (.ref (He.ga K "TitledListing")) = some true), decide (PySem.W.kitOne K (.ref (He.ga K "FullListing")) (.ref (He.ga K "TitledListing")) = some true), decide (PySem.W.kitOne K (.ref (He.ga K "Listing")) (.type "list") = some false), decide (PySem.W.kitOne K (.ref (He.ga K "NumberedListing")) (.type "list") = some false), decide (PySem.W.kitOne K (.ref (He.ga K "TitledListing")) (.type "list") = some false), decide (PySem.W.kitOne K (.ref (He.ga K "FullListing")) (.type "list") = some false), decide (PySem.W.kitOne K (.ref (He.ga K "Listing")) (.type "str") = some false), decide (PySem.W.kitOne K (.ref (He.ga K "NumberedListing")) (.type "str") = some false), decide (PySem.W.kitOne K (.ref (He.ga K "TitledListing")) (.type "str") = some false), decide (PySem.W.kitOne K (.ref (He.ga K "FullListing")) (.type "str") = some false), He.eqO (PySem.W.findIn K (.ref (He.ga K "Listing")) "__class__") (some (some (.builtin "object.__class__"))), He.eqO (PySem.W.specialIn K (.builtin "object.__class__") "__get__") (some (some (.builtin "getset_descriptor.__get__"))), decide (PySem.W.takesIn K (.builtin "object.__class__") = some true), decide (PySem.W.mroIn K (He.ga K "Listing") (.type "object") = some true), He.eqO (PySem.W.findIn K (.ref (He.ga K "NumberedListing")) "__class__") (some (some (.builtin "object.__class__"))), decide (PySem.W.mroIn K (He.ga K "NumberedListing") (.type "object") = some true), He.eqO (PySem.W.findIn K (.ref (He.ga K "TitledListing")) "__class__") (some (some (.builtin "object.__class__"))), decide (PySem.W.mroIn K (He.ga K "TitledListing") (.type "object") = some true), He.eqO (PySem.W.findIn K (.ref (He.ga K "FullListing")) "__class__") (some (some (.builtin "object.__class__"))), decide (PySem.W.mroIn K (He.ga K "FullListing") (.type "object") = some true), decide (He.fAd K ("NumberedListing", some "__init__") = He.fAd K ("Listing", some "__init__")), decide (He.fAd K ("TitledListing", some "__init__") = He.fAd K ("Listing", some "__init__")), decide (He.fAd K ("FullListing", some "__init__") = He.fAd K ("Listing", some "__init__"))]
theorem ft_ok {P : Program} {w : World} {K : PySem.W.Frag} {mg : Str → Option Value} (C : HC2 P fa fn fs xf w K mg) : FlOk K ftL := (FlOk.cons ⟨He.cls_ok (C.fact 21 rfl), He.noat_ok (C.fact 22 rfl)⟩ (FlOk.cons ⟨He.cls_ok (C.fact 19 rfl), He.noat_ok (C.fact 20 rfl)⟩ (FlOk.cons ⟨He.cls_ok (C.fact 17 rfl), He.noat_ok (C.fact 18 rfl)⟩ (FlOk.cons ⟨He.cls_ok (C.fact 15 rfl), He.noat_ok (C.fact 16 rfl)⟩ FlOk.nil))))
theorem cs_ok {P : Program} {w : World} {K : PySem.W.Frag} {mg : Str → Option Value} (C : HC2 P fa fn fs xf w K mg) : ∀ k ∈ csL, TyC K k := fun k hk => by
  rcases List.mem_cons.mp hk with rfl | hk
  · exact ⟨He.cls_ok (C.fact 21 rfl), He.eqO_ok (C.xt 72 rfl), He.eqO_ok (C.xt 73 rfl), of_decide_eq_true (C.xt 74 rfl), of_decide_eq_true (C.xt 75 rfl)⟩
  rcases List.mem_cons.mp hk with rfl | hk
  · exact ⟨He.cls_ok (C.fact 19 rfl), He.eqO_ok (C.xt 76 rfl), He.eqO_ok (C.xt 73 rfl), of_decide_eq_true (C.xt 74 rfl), of_decide_eq_true (C.xt 77 rfl)⟩
  rcases List.mem_cons.mp hk with rfl | hk
  · exact ⟨He.cls_ok (C.fact 17 rfl), He.eqO_ok (C.xt 78 rfl), He.eqO_ok (C.xt 73 rfl), of_decide_eq_true (C.xt 74 rfl), of_decide_eq_true (C.xt 79 rfl)⟩
  rcases List.mem_cons.mp hk with rfl | hk
  · exact ⟨He.cls_ok (C.fact 15 rfl), He.eqO_ok (C.xt 80 rfl), He.eqO_ok (C.xt 73 rfl), of_decide_eq_true (C.xt 74 rfl), of_decide_eq_true (C.xt 81 rfl)⟩
  cases hk
theorem it_ok {P : Program} {w : World} {K : PySem.W.Frag} {mg : Str → Option Value} (C : HC2 P fa fn fs xf w K mg) : ItOk K itL := (ItOk.cons (of_decide_eq_true (C.xt 20 rfl)) (ItOk.cons (of_decide_eq_true (C.xt 21 rfl)) (ItOk.cons (of_decide_eq_true (C.xt 22 rfl)) (ItOk.cons (of_decide_eq_true (C.xt 23 rfl)) (ItOk.cons (of_decide_eq_true (C.xt 24 rfl)) (ItOk.cons (of_decide_eq_true (C.xt 25 rfl)) (ItOk.cons (of_decide_eq_true (C.xt 26 rfl)) (ItOk.cons (of_decide_eq_true (C.xt 27 rfl)) (ItOk.cons (of_decide_eq_true (C.xt 28 rfl)) (ItOk.cons (of_decide_eq_true (C.xt 29 rfl)) (ItOk.cons (of_decide_eq_true (C.xt 30 rfl)) (ItOk.cons (of_decide_eq_true (C.xt 31 rfl)) (ItOk.cons (of_decide_eq_true (C.xt 32 rfl)) (ItOk.cons (of_decide_eq_true (C.xt 33 rfl)) (ItOk.cons (of_decide_eq_true (C.xt 34 rfl)) (ItOk.cons (of_decide_eq_true (C.xt 35 rfl)) (ItOk.cons (of_decide_eq_true (C.xt 36 rfl)) (ItOk.cons (of_decide_eq_true (C.xt 37 rfl)) (ItOk.cons (of_decide_eq_true (C.xt 38 rfl)) (ItOk.cons (of_decide_eq_true (C.xt 39 rfl)) (ItOk.cons (of_decide_eq_true (C.xt 40 rfl)) (ItOk.cons (of_decide_eq_true (C.xt 41 rfl)) (ItOk.cons (of_decide_eq_true (C.xt 42 rfl)) (ItOk.cons (of_decide_eq_true (C.xt 43 rfl)) (ItOk.cons (of_decide_eq_true (C.xt 44 rfl)) (ItOk.cons (of_decide_eq_true (C.xt 45 rfl)) (ItOk.cons (of_decide_eq_true (C.xt 46 rfl)) (ItOk.cons (of_decide_eq_true (C.xt 47 rfl)) (ItOk.cons (of_decide_eq_true (C.xt 48 rfl)) (ItOk.cons (of_decide_eq_true (C.xt 49 rfl)) (ItOk.cons (of_decide_eq_true (C.xt 50 rfl)) (ItOk.cons (of_decide_eq_true (C.xt 51 rfl)) (ItOk.cons (of_decide_eq_true (C.xt 52 rfl)) (ItOk.cons (of_decide_eq_true (C.xt 53 rfl)) (ItOk.cons (of_decide_eq_true (C.xt 54 rfl)) (ItOk.cons (of_decide_eq_true (C.xt 55 rfl)) (ItOk.cons (of_decide_eq_true (C.xt 56 rfl)) (ItOk.cons (of_decide_eq_true (C.xt 57 rfl)) (ItOk.cons (of_decide_eq_true (C.xt 58 rfl)) (ItOk.cons (of_decide_eq_true (C.xt 59 rfl)) (ItOk.cons (of_decide_eq_true (C.xt 60 rfl)) (ItOk.cons (of_decide_eq_true (C.xt 61 rfl)) (ItOk.cons (of_decide_eq_true (C.xt 62 rfl)) (ItOk.cons (of_decide_eq_true (C.xt 63 rfl)) (ItOk.cons (kit_ty (by decide +kernel)) (ItOk.cons (kit_ty (by decide +kernel)) (ItOk.cons (kit_ty (by decide +kernel)) (ItOk.cons (kit_ty (by decide +kernel)) (ItOk.cons (kit_ty (by decide +kernel)) (ItOk.cons (kit_ty (by decide +kernel)) (ItOk.cons (kit_ty (by decide +kernel)) (ItOk.cons (of_decide_eq_true (C.xt 64 rfl)) (ItOk.cons (of_decide_eq_true (C.xt 65 rfl)) (ItOk.cons (of_decide_eq_true (C.xt 66 rfl)) (ItOk.cons (of_decide_eq_true (C.xt 67 rfl)) (ItOk.cons (kit_ty (by decide +kernel)) (ItOk.cons (kit_ty (by decide +kernel)) (ItOk.cons (kit_ty (by decide +kernel)) (ItOk.cons (kit_ty (by decide +kernel)) (ItOk.cons (kit_ty (by decide +kernel)) (ItOk.cons (kit_ty (by decide +kernel)) (ItOk.cons (kit_ty (by decide +kernel)) (ItOk.cons (of_decide_eq_true (C.xt 68 rfl)) (ItOk.cons (of_decide_eq_true (C.xt 69 rfl)) (ItOk.cons (of_decide_eq_true (C.xt 70 rfl)) (ItOk.cons (of_decide_eq_true (C.xt 71 rfl)) ItOk.nil))))))))))))))))))))))))))))))))))))))))))))))))))))))))))))))))))
theorem d__law_bag {P : Program} {w : World} {K : PySem.W.Frag} {mg : Str → Option Value} {base : Heap} (C : HC2 P fa fn fs xf w K mg) : ND.FnD P w K mg base 1 (He.fAd K ("_law_bag", none)) m__law_bag := by
  obtain ⟨fd, F⟩ := C.def_ 0 rfl
  have F : FunD K "_law_bag" "_law_bag" (defArgs s__law_bag) (defBody s__law_bag) (defScope s__law_bag) [] [] (He.fAd K ("_law_bag", none)) fd := F
  refine fnd_of F sc__law_bag (F.bindsN fun _ _ _ _ _ _ us hl => match us, hl with | [_], _ => rfl) fun cdv A outer s H E hr tk hp => ?_
  exact css_one (cs_ret (ce_lst (ca_cons (ce_lc [1] rfl sc__law_bag.nd (ci_val (ce_var 0)) (blkOk_by (N := N__law_bag) (sc := defScope s__law_bag) (own := [("cell", 1)]) (by decide +kernel)) (fun _ _ _ _ _ => cg_name 1 sc__law_bag.nd) (fun _ _ _ _ _ => cts_nil) (fun _ _ _ _ _ => ce_callB c_abs (C.free 0 rfl) boot_abs (ca_cons (ce_callTy c_int (C.free 1 rfl) boot_int (ca_cons (ce_var 1) (ca_nil))) (ca_nil)))) (ca_cons (ce_int) (ca_cons (ce_int) (ca_cons (ce_int) (ca_cons (ce_int) (ca_cons (ce_int) (ca_nil)))))))))
theorem g__law_bag {P : Program} {w : World} {K : PySem.W.Frag} {mg : Str → Option Value} {base : Heap} (C : HC2 P fa fn fs xf w K mg) : FnG P w K mg base 1 "_law_bag" m__law_bag := ⟨_, C.glo 23 rfl, d__law_bag C⟩
theorem d__law_draw {P : Program} {w : World} {K : PySem.W.Frag} {mg : Str → Option Value} {base : Heap} (C : HC2 P fa fn fs xf w K mg) : ND.FnD P w K mg base 1 (He.fAd K ("_law_draw", none)) m__law_draw := by
  obtain ⟨fd, F⟩ := C.def_ 1 rfl
  have F : FunD K "_law_draw" "_law_draw" (defArgs s__law_draw) (defBody s__law_draw) (defScope s__law_draw) [] [] (He.fAd K ("_law_draw", none)) fd := F
  refine fnd_of F sc__law_draw (F.bindsN fun _ _ _ _ _ _ us hl => match us, hl with | [_, _], _ => rfl) fun cdv A outer s H E hr tk hp => ?_
  exact css_cons (cs_if (ct_w (cw_and (ct_cmp (o_eqD hr) (ce_ix (ce_var 0) (ce_int)) (ce_int)) (cw_and (ct_cmp (o_eqD hr) (ce_ix (ce_var 0) (ce_int)) (ce_int)) (cw_and1 (ct_cmp o_ltI (ce_ix (ce_var 0) (ce_int)) (ce_callB c_len (C.free 2 rfl) boot_len (ca_cons (ce_ix (ce_var 0) (ce_int)) (ca_nil)))))))) (css_cons (cs_set 2 (ce_ix (ce_ix (ce_var 0) (ce_int)) (ce_ix (ce_var 0) (ce_int))) sc__law_draw.nd) (css_cons (cs_setIx (ce_bin o_addX (ce_ix (ce_var 0) (ce_int)) (ce_int)) (ce_var 0) (ce_int)) (css_one (cs_if (ct_cmp o_geI (ce_var 2) (ce_bin o_powI (ce_int) (ce_int))) (css_one (cs_setIx (ce_var 2) (ce_var 0) (ce_int))) (css_cons (cs_setIx (ce_bin o_modI (ce_callTy c_int (C.free 1 rfl) boot_int (ca_cons (ce_bin o_addX (ce_bin o_mulX (ce_ix (ce_var 0) (ce_int)) (ce_int)) (ce_var 2)) (ca_nil))) (ce_int)) (ce_var 0) (ce_int)) (css_one (cs_setIx (ce_int) (ce_var 0) (ce_int)))))))) (css_nil)) (css_cons (cs_if (ct_cmp o_gtI (ce_ix (ce_var 0) (ce_int)) (ce_int)) (css_cons (cs_set 3 (ce_bin o_modI (ce_callTy c_int (C.free 1 rfl) boot_int (ca_cons (ce_ix (ce_var 0) (ce_int)) (ca_nil))) (ce_var 1)) sc__law_draw.nd) (css_cons (cs_setIx (ce_bin o_divI (ce_ix (ce_var 0) (ce_int)) (ce_var 1)) (ce_var 0) (ce_int)) (css_one (cs_ret (ce_var 3))))) (css_nil)) (css_cons (cs_setIx (ce_bin o_addX (ce_ix (ce_var 0) (ce_int)) (ce_int)) (ce_var 0) (ce_int)) (css_cons (cs_if (ct_cmp o_gtI (ce_ix (ce_var 0) (ce_int)) (ce_int)) (css_one (cs_setIx (ce_bin o_subI (ce_ix (ce_var 0) (ce_int)) (ce_int)) (ce_var 0) (ce_int))) (css_nil)) (css_cons (cs_set 4 (ce_bin o_modI (ce_callTy c_int (C.free 1 rfl) boot_int (ca_cons (ce_bin o_addX (ce_bin o_addX (ce_bin o_mulX (ce_ix (ce_var 0) (ce_int)) (ce_int)) (ce_bin o_mulX (ce_ix (ce_var 0) (ce_int)) (ce_int))) (ce_int)) (ca_nil))) (ce_int)) sc__law_draw.nd) (css_cons (cs_set 5 (ce_bin o_modI (ce_callTy c_int (C.free 1 rfl) boot_int (ca_cons (ce_bin o_addX (ce_bin o_addX (ce_bin o_mulX (ce_var 4) (ce_var 4)) (ce_bin o_mulX (ce_ix (ce_var 0) (ce_int)) (ce_int))) (ce_int)) (ca_nil))) (ce_int)) sc__law_draw.nd) (css_cons (cs_set 6 (ce_bin o_modI (ce_callTy c_int (C.free 1 rfl) boot_int (ca_cons (ce_bin o_addX (ce_bin o_mulX (ce_var 5) (ce_var 5)) (ce_bin o_divI (ce_var 5) (ce_int))) (ca_nil))) (ce_int)) sc__law_draw.nd) (css_one (cs_ret (ce_bin o_modI (ce_callTy c_int (C.free 1 rfl) boot_int (ca_cons (ce_bin o_divI (ce_var 6) (ce_int)) (ca_nil))) (ce_var 1))))))))))
theorem g__law_draw {P : Program} {w : World} {K : PySem.W.Frag} {mg : Str → Option Value} {base : Heap} (C : HC2 P fa fn fs xf w K mg) : FnG P w K mg base 1 "_law_draw" m__law_draw := ⟨_, C.glo 24 rfl, d__law_draw C⟩
theorem d__law_figure {P : Program} {w : World} {K : PySem.W.Frag} {mg : Str → Option Value} {base : Heap} (C : HC2 P fa fn fs xf w K mg) : ND.FnD P w K mg base 2 (He.fAd K ("_law_figure", none)) m__law_figure := by
  obtain ⟨fd, F⟩ := C.def_ 2 rfl
  have F : FunD K "_law_figure" "_law_figure" (defArgs s__law_figure) (defBody s__law_figure) (defScope s__law_figure) [] [] (He.fAd K ("_law_figure", none)) fd := F
  refine fnd_of F sc__law_figure (F.bindsN fun _ _ _ _ _ _ us hl => match us, hl with | [_], _ => rfl) fun cdv A outer s H E hr tk hp => ?_
  exact css_cons (cs_set 1 (ce_call (g__law_draw C) (hr.mono (by decide : 1 ≤ 1)) tk (ca_cons (ce_var 0) (ca_cons (ce_int) (ca_nil)))) sc__law_figure.nd) (css_cons (cs_set 2 (ce_call (g__law_draw C) (hr.mono (by decide : 1 ≤ 1)) tk (ca_cons (ce_var 0) (ca_cons (ce_int) (ca_nil)))) sc__law_figure.nd) (css_cons (cs_if (ct_cmp (o_eqD hr) (ce_var 1) (ce_int)) (css_one (cs_set 2 (ce_bin o_addX (ce_int) (ce_call (g__law_draw C) (hr.mono (by decide : 1 ≤ 1)) tk (ca_cons (ce_var 0) (ca_cons (ce_int) (ca_nil))))) sc__law_figure.nd)) (css_one (cs_if (ct_cmp (o_eqD hr) (ce_var 1) (ce_int)) (css_one (cs_set 2 (ce_bin o_addX (ce_int) (ce_call (g__law_draw C) (hr.mono (by decide : 1 ≤ 1)) tk (ca_cons (ce_var 0) (ca_cons (ce_int) (ca_nil))))) sc__law_figure.nd)) (css_one (cs_if (ct_cmp (o_eqD hr) (ce_var 1) (ce_int)) (css_one (cs_set 2 (ce_call (g__law_draw C) (hr.mono (by decide : 1 ≤ 1)) tk (ca_cons (ce_var 0) (ca_cons (ce_int) (ca_nil)))) sc__law_figure.nd)) (css_one (cs_if (ct_cmp (o_eqD hr) (ce_var 1) (ce_int)) (css_one (cs_set 2 (ce_bin o_addX (ce_bin o_mulX (ce_call (g__law_draw C) (hr.mono (by decide : 1 ≤ 1)) tk (ca_cons (ce_var 0) (ca_cons (ce_int) (ca_nil)))) (ce_int)) (ce_call (g__law_draw C) (hr.mono (by decide : 1 ≤ 1)) tk (ca_cons (ce_var 0) (ca_cons (ce_int) (ca_nil))))) sc__law_figure.nd)) (css_nil)))))))) (css_cons (cs_if (ct_cmp (o_eqD hr) (ce_call (g__law_draw C) (hr.mono (by decide : 1 ≤ 1)) tk (ca_cons (ce_var 0) (ca_cons (ce_int) (ca_nil)))) (ce_int)) (css_one (cs_ret (ce_bin o_subI (ce_int) (ce_var 2)))) (css_nil)) (css_one (cs_ret (ce_var 2))))))
theorem g__law_figure {P : Program} {w : World} {K : PySem.W.Frag} {mg : Str → Option Value} {base : Heap} (C : HC2 P fa fn fs xf w K mg) : FnG P w K mg base 2 "_law_figure" m__law_figure := ⟨_, C.glo 25 rfl, d__law_figure C⟩
theorem d__law_word {P : Program} {w : World} {K : PySem.W.Frag} {mg : Str → Option Value} {base : Heap} (C : HC2 P fa fn fs xf w K mg) : ND.FnD P w K mg base 2 (He.fAd K ("_law_word", none)) m__law_word := by
  obtain ⟨fd, F⟩ := C.def_ 3 rfl
  have F : FunD K "_law_word" "_law_word" (defArgs s__law_word) (defBody s__law_word) (defScope s__law_word) [] [] (He.fAd K ("_law_word", none)) fd := F
  refine fnd_of F sc__law_word (F.bindsN fun _ _ _ _ _ _ us hl => match us, hl with | [_], _ => rfl) fun cdv A outer s H E hr tk hp => ?_
  exact css_cons (cs_set 1 (ce_str) sc__law_word.nd) (css_cons (cs_set 2 (ce_str) sc__law_word.nd) (css_cons (cs_for hp rfl (ci_range1 (C.free 3 rfl) (ce_bin o_addX (ce_int) (ce_call (g__law_draw C) (hr.mono (by decide : 1 ≤ 1)) tk (ca_cons (ce_var 0) (ca_cons (ce_int) (ca_nil)))))) (cg_name 3 sc__law_word.nd) (css_one (cs_set 2 (ce_bin o_addX (ce_var 2) (ce_ix (ce_var 1) (ce_call (g__law_draw C) (hr.mono (by decide : 1 ≤ 1)) tk (ca_cons (ce_var 0) (ca_cons (ce_int) (ca_nil)))))) sc__law_word.nd))) (css_one (cs_ret (ce_var 2)))))
theorem g__law_word {P : Program} {w : World} {K : PySem.W.Frag} {mg : Str → Option Value} {base : Heap} (C : HC2 P fa fn fs xf w K mg) : FnG P w K mg base 2 "_law_word" m__law_word := ⟨_, C.glo 26 rfl, d__law_word C⟩
theorem d__law_box {P : Program} {w : World} {K : PySem.W.Frag} {mg : Str → Option Value} {base : Heap} (C : HC2 P fa fn fs xf w K mg) : ND.FnD P w K mg base 3 (He.fAd K ("_law_box", none)) m__law_box := by
  obtain ⟨fd, F⟩ := C.def_ 4 rfl
  have F : FunD K "_law_box" "_law_box" (defArgs s__law_box) (defBody s__law_box) (defScope s__law_box) [] [] (He.fAd K ("_law_box", none)) fd := F
  refine fnd_of F sc__law_box (F.bindsN fun _ _ _ _ _ _ us hl => match us, hl with | [_], _ => rfl) fun cdv A outer s H E hr tk hp => ?_
  exact css_one (cs_ret (ce_tup (ca_cons (ce_call (g__law_word C) (hr.mono (by decide : 2 ≤ 2)) tk (ca_cons (ce_var 0) (ca_nil))) (ca_cons (ce_call (g__law_figure C) (hr.mono (by decide : 2 ≤ 2)) tk (ca_cons (ce_var 0) (ca_nil))) (ca_cons (ce_call (g__law_figure C) (hr.mono (by decide : 2 ≤ 2)) tk (ca_cons (ce_var 0) (ca_nil))) (ca_cons (ce_call (g__law_figure C) (hr.mono (by decide : 2 ≤ 2)) tk (ca_cons (ce_var 0) (ca_nil))) (ca_cons (ce_call (g__law_figure C) (hr.mono (by decide : 2 ≤ 2)) tk (ca_cons (ce_var 0) (ca_nil))) (ca_nil))))))))
theorem g__law_box {P : Program} {w : World} {K : PySem.W.Frag} {mg : Str → Option Value} {base : Heap} (C : HC2 P fa fn fs xf w K mg) : FnG P w K mg base 3 "_law_box" m__law_box := ⟨_, C.glo 27 rfl, d__law_box C⟩
theorem d__law_named {P : Program} {w : World} {K : PySem.W.Frag} {mg : Str → Option Value} {base : Heap} (C : HC2 P fa fn fs xf w K mg) : ND.FnD P w K mg base 1 (He.fAd K ("_law_named", none)) m__law_named := by
  obtain ⟨fd, F⟩ := C.def_ 5 rfl
  have F : FunD K "_law_named" "_law_named" (defArgs s__law_named) (defBody s__law_named) (defScope s__law_named) [] [] (He.fAd K ("_law_named", none)) fd := F
  refine fnd_of F sc__law_named (F.bindsN fun _ _ _ _ _ _ us hl => match us, hl with | [_], _ => rfl) fun cdv A outer s H E hr tk hp => ?_
  exact css_cons (cs_set 1 (ce_str) sc__law_named.nd) (css_one (cs_ret (ce_bin o_addX (ce_bin o_addX (ce_ix (ce_var 1) (ce_bin o_divI (ce_var 0) (ce_int))) (ce_ix (ce_var 1) (ce_bin o_modI (ce_callTy c_int (C.free 1 rfl) boot_int (ca_cons (ce_bin o_divI (ce_var 0) (ce_int)) (ca_nil))) (ce_int)))) (ce_ix (ce_var 1) (ce_bin o_modI (ce_callTy c_int (C.free 1 rfl) boot_int (ca_cons (ce_var 0) (ca_nil))) (ce_int))))))
theorem g__law_named {P : Program} {w : World} {K : PySem.W.Frag} {mg : Str → Option Value} {base : Heap} (C : HC2 P fa fn fs xf w K mg) : FnG P w K mg base 1 "_law_named" m__law_named := ⟨_, C.glo 28 rfl, d__law_named C⟩
theorem d__law_boxes {P : Program} {w : World} {K : PySem.W.Frag} {mg : Str → Option Value} {base : Heap} (C : HC2 P fa fn fs xf w K mg) : ND.FnD P w K mg base 4 (He.fAd K ("_law_boxes", none)) m__law_boxes := by
  obtain ⟨fd, F⟩ := C.def_ 6 rfl
  have F : FunD K "_law_boxes" "_law_boxes" (defArgs s__law_boxes) (defBody s__law_boxes) (defScope s__law_boxes) [] [] (He.fAd K ("_law_boxes", none)) fd := F
  refine fnd_of F sc__law_boxes (F.bindsN fun _ _ _ _ _ _ us hl => match us, hl with | [_, _], _ => rfl) fun cdv A outer s H E hr tk hp => ?_
  exact css_cons (cs_if (ct_truth (ce_var 1)) (css_cons (cs_set 2 (ce_call (g__law_figure C) (hr.mono (by decide : 2 ≤ 3)) tk (ca_cons (ce_var 0) (ca_nil))) sc__law_boxes.nd) (css_one (cs_ret (ce_lc [3] rfl sc__law_boxes.nd (ci_range1 (C.free 3 rfl) (ce_call (g__law_draw C) (hr.mono (by decide : 1 ≤ 3)) tk (ca_cons (ce_var 0) (ca_cons (ce_int) (ca_nil))))) (blkOk_by (N := N__law_boxes) (sc := defScope s__law_boxes) (own := [("k", 3)]) (by decide +kernel)) (fun _ _ _ _ _ => cg_name 3 sc__law_boxes.nd) (fun _ _ _ _ _ => cts_nil) (fun _ _ _ _ _ => ce_tup (ca_cons (ce_call (g__law_named C) (hr.mono (by decide : 1 ≤ 3)) takes_no (ca_cons (ce_var 3) (ca_nil))) (ca_cons (ce_var 3) (ca_cons (ce_bin o_mulX (ce_var 2) (ce_var 3)) (ca_cons (ce_bin o_addX (ce_var 3) (ce_int)) (ca_cons (ce_int) (ca_nil))))))))))) (css_nil)) (css_one (cs_ret (ce_lc [3] rfl sc__law_boxes.nd (ci_range1 (C.free 3 rfl) (ce_call (g__law_draw C) (hr.mono (by decide : 1 ≤ 3)) tk (ca_cons (ce_var 0) (ca_cons (ce_int) (ca_nil))))) (blkOk_by (N := N__law_boxes) (sc := defScope s__law_boxes) (own := [("k", 3)]) (by decide +kernel)) (fun _ _ _ _ _ => cg_name 3 sc__law_boxes.nd) (fun _ _ _ _ _ => cts_nil) (fun _ _ _ _ _ => ce_call (g__law_box C) (hr.mono (by decide : 3 ≤ 3)) takes_no (ca_cons (ce_var 0) (ca_nil))))))
theorem g__law_boxes {P : Program} {w : World} {K : PySem.W.Frag} {mg : Str → Option Value} {base : Heap} (C : HC2 P fa fn fs xf w K mg) : FnG P w K mg base 4 "_law_boxes" m__law_boxes := ⟨_, C.glo 29 rfl, d__law_boxes C⟩
theorem d__law_padded {P : Program} {w : World} {K : PySem.W.Frag} {mg : Str → Option Value} {base : Heap} (C : HC2 P fa fn fs xf w K mg) : ND.FnD P w K mg base 1 (He.fAd K ("_law_padded", none)) m__law_padded := by
  obtain ⟨fd, F⟩ := C.def_ 7 rfl
  have F : FunD K "_law_padded" "_law_padded" (defArgs s__law_padded) (defBody s__law_padded) (defScope s__law_padded) [] [] (He.fAd K ("_law_padded", none)) fd := F
  refine fnd_of F sc__law_padded (F.bindsN fun _ _ _ _ _ _ us hl => match us, hl with | [_, _], _ => rfl) fun cdv A outer s H E hr tk hp => ?_
  exact css_one (cs_ret (ce_bin o_addX (ce_bin o_mulZ (ce_str) (ce_callB (c_max2 rfl) (C.free 4 rfl) boot_max (ca_cons (ce_int) (ca_cons (ce_bin o_subI (ce_var 1) (ce_callB c_len (C.free 2 rfl) boot_len (ca_cons (ce_var 0) (ca_nil)))) (ca_nil))))) (ce_var 0)))
theorem g__law_padded {P : Program} {w : World} {K : PySem.W.Frag} {mg : Str → Option Value} {base : Heap} (C : HC2 P fa fn fs xf w K mg) : FnG P w K mg base 1 "_law_padded" m__law_padded := ⟨_, C.glo 30 rfl, d__law_padded C⟩
theorem d__law_row {P : Program} {w : World} {K : PySem.W.Frag} {mg : Str → Option Value} {base : Heap} (C : HC2 P fa fn fs xf w K mg) : ND.FnD P w K mg base 2 (He.fAd K ("_law_row", none)) m__law_row := by
  obtain ⟨fd, F⟩ := C.def_ 8 rfl
  have F : FunD K "_law_row" "_law_row" (defArgs s__law_row) (defBody s__law_row) (defScope s__law_row) [] [] (He.fAd K ("_law_row", none)) fd := F
  refine fnd_of F sc__law_row (F.bindsN fun _ _ _ _ _ _ us hl => match us, hl with | [_], _ => rfl) fun cdv A outer s H E hr tk hp => ?_
  exact css_cons (cs_set 1 (ce_bin o_addX (ce_ix (ce_var 0) (ce_int)) (ce_bin o_mulZ (ce_str) (ce_callB (c_max2 rfl) (C.free 4 rfl) boot_max (ca_cons (ce_int) (ca_cons (ce_bin o_subI (ce_int) (ce_callB c_len (C.free 2 rfl) boot_len (ca_cons (ce_ix (ce_var 0) (ce_int)) (ca_nil)))) (ca_nil)))))) sc__law_row.nd) (css_cons (cs_for hp rfl (ci_val (ce_sl (ce_var 0) (co_some (ce_int)) (co_none))) (cg_name 2 sc__law_row.nd) (css_one (cs_set 1 (ce_bin o_addX (ce_var 1) (ce_call (g__law_padded C) (hr.mono (by decide : 1 ≤ 1)) tk (ca_cons (ce_callTy c_strI (C.free 5 rfl) boot_str (ca_cons (ce_var 2) (ca_nil))) (ca_cons (ce_int) (ca_nil))))) sc__law_row.nd))) (css_one (cs_ret (ce_var 1))))
theorem g__law_row {P : Program} {w : World} {K : PySem.W.Frag} {mg : Str → Option Value} {base : Heap} (C : HC2 P fa fn fs xf w K mg) : FnG P w K mg base 2 "_law_row" m__law_row := ⟨_, C.glo 31 rfl, d__law_row C⟩
theorem d__law_numbered {P : Program} {w : World} {K : PySem.W.Frag} {mg : Str → Option Value} {base : Heap} (C : HC2 P fa fn fs xf w K mg) : ND.FnD P w K mg base 2 (He.fAd K ("_law_numbered", none)) m__law_numbered := by
  obtain ⟨fd, F⟩ := C.def_ 9 rfl
  have F : FunD K "_law_numbered" "_law_numbered" (defArgs s__law_numbered) (defBody s__law_numbered) (defScope s__law_numbered) [] [] (He.fAd K ("_law_numbered", none)) fd := F
  refine fnd_of F sc__law_numbered (F.bindsN fun _ _ _ _ _ _ us hl => match us, hl with | [_], _ => rfl) fun cdv A outer s H E hr tk hp => ?_
  exact css_one (cs_ret (ce_lc [1] rfl sc__law_numbered.nd (ci_range1 (C.free 3 rfl) (ce_callB c_len (C.free 2 rfl) boot_len (ca_cons (ce_var 0) (ca_nil)))) (blkOk_by (N := N__law_numbered) (sc := defScope s__law_numbered) (own := [("k", 1)]) (by decide +kernel)) (fun _ _ _ _ _ => cg_name 1 sc__law_numbered.nd) (fun _ _ _ _ _ => cts_nil) (fun _ _ _ _ _ => ce_bin o_addX (ce_bin o_addX (ce_call (g__law_padded C) (hr.mono (by decide : 1 ≤ 1)) takes_no (ca_cons (ce_callTy c_strI (C.free 5 rfl) boot_str (ca_cons (ce_var 1) (ca_nil))) (ca_cons (ce_int) (ca_nil)))) (ce_str)) (ce_ix (ce_var 0) (ce_var 1)))))
theorem g__law_numbered {P : Program} {w : World} {K : PySem.W.Frag} {mg : Str → Option Value} {base : Heap} (C : HC2 P fa fn fs xf w K mg) : FnG P w K mg base 2 "_law_numbered" m__law_numbered := ⟨_, C.glo 32 rfl, d__law_numbered C⟩
theorem d__law_due {P : Program} {w : World} {K : PySem.W.Frag} {mg : Str → Option Value} {base : Heap} (C : HC2 P fa fn fs xf w K mg) : ND.FnD P w K mg base 3 (He.fAd K ("_law_due", none)) m__law_due := by
  obtain ⟨fd, F⟩ := C.def_ 10 rfl
  have F : FunD K "_law_due" "_law_due" (defArgs s__law_due) (defBody s__law_due) (defScope s__law_due) [] [] (He.fAd K ("_law_due", none)) fd := F
  refine fnd_of F sc__law_due (F.bindsN fun _ _ _ _ _ _ us hl => match us, hl with | [_], _ => rfl) fun cdv A outer s H E hr tk hp => ?_
  exact css_cons (cs_setLc 1 [3] rfl sc__law_due.nd (ci_val (ce_var 0)) (blkOk_by (N := N__law_due) (sc := defScope s__law_due) (own := [("box", 3)]) (by decide +kernel)) (fun _ _ _ _ _ => cg_name 3 sc__law_due.nd) (fun _ _ _ _ _ => cts_nil) (fun _ _ _ _ _ => ce_call (g__law_row C) (hr.mono (by decide : 2 ≤ 2)) takes_no (ca_cons (ce_var 3) (ca_nil)))) (css_cons (cs_set 2 (ce_bin o_addX (ce_lst (ca_cons (ce_bin o_addX (ce_str) (ce_callTy c_strI (C.free 5 rfl) boot_str (ca_cons (ce_callB c_len (C.free 2 rfl) boot_len (ca_cons (ce_var 0) (ca_nil))) (ca_nil)))) (ca_nil))) (ce_var 1)) sc__law_due.nd) (css_one (cs_ret (ce_lst (ca_cons (ce_var 1) (ca_cons (ce_call (g__law_numbered C) (hr.mono (by decide : 2 ≤ 2)) tk (ca_cons (ce_var 1) (ca_nil))) (ca_cons (ce_var 2) (ca_cons (ce_call (g__law_numbered C) (hr.mono (by decide : 2 ≤ 2)) tk (ca_cons (ce_var 2) (ca_nil))) (ca_nil)))))))))
theorem g__law_due {P : Program} {w : World} {K : PySem.W.Frag} {mg : Str → Option Value} {base : Heap} (C : HC2 P fa fn fs xf w K mg) : FnG P w K mg base 3 "_law_due" m__law_due := ⟨_, C.glo 33 rfl, d__law_due C⟩
theorem d_Listinguu_inituu {P : Program} {w : World} {K : PySem.W.Frag} {mg : Str → Option Value} {base : Heap} (C : HC2 P fa fn fs xf w K mg) : ND.FnD P w K mg base 1 (He.fAd K ("Listing", some "__init__")) m_Listinguu_inituu := by
  obtain ⟨fd, F⟩ := C.def_ 11 rfl
  have F : FunD K "__init__" "Listing.__init__" (defArgs s_Listinguu_inituu) (defBody s_Listinguu_inituu) (defScope s_Listinguu_inituu) [] [] (He.fAd K ("Listing", some "__init__")) fd := F
  refine fnd_of F sc_Listinguu_inituu (F.bindsN fun _ _ _ _ _ _ us hl => match us, hl with | [_, _], _ => rfl) fun cdv A outer s H E hr tk hp => ?_
  exact css_one (cs_fld (ft_ok C) (ce_var 0) (ce_callTy c_tuple (C.free 6 rfl) boot_tuple (ca_cons (ce_var 1) (ca_nil))))
theorem k_Listing {P : Program} {w : World} {K : PySem.W.Frag} {mg : Str → Option Value} {base : Heap} (C : HC2 P fa fn fs xf w K mg) : MkD P w K mg base 1 "Listing" m_Listinguu_inituu := ⟨C.glo 14 rfl, _, He.mkr_ok (C.fact 34 rfl), d_Listinguu_inituu C⟩
theorem k_NumberedListing {P : Program} {w : World} {K : PySem.W.Frag} {mg : Str → Option Value} {base : Heap} (C : HC2 P fa fn fs xf w K mg) : MkD P w K mg base 1 "NumberedListing" m_Listinguu_inituu := ⟨C.glo 13 rfl, _, He.mkr_ok (C.fact 35 rfl), by have e : He.fAd K ("NumberedListing", some "__init__") = He.fAd K ("Listing", some "__init__") := of_decide_eq_true (C.xt 82 rfl); exact (show ND.FnD P w K mg base 1 (He.fAd K ("NumberedListing", some "__init__")) m_Listinguu_inituu from e ▸ d_Listinguu_inituu C)⟩
theorem k_TitledListing {P : Program} {w : World} {K : PySem.W.Frag} {mg : Str → Option Value} {base : Heap} (C : HC2 P fa fn fs xf w K mg) : MkD P w K mg base 1 "TitledListing" m_Listinguu_inituu := ⟨C.glo 12 rfl, _, He.mkr_ok (C.fact 36 rfl), by have e : He.fAd K ("TitledListing", some "__init__") = He.fAd K ("Listing", some "__init__") := of_decide_eq_true (C.xt 83 rfl); exact (show ND.FnD P w K mg base 1 (He.fAd K ("TitledListing", some "__init__")) m_Listinguu_inituu from e ▸ d_Listinguu_inituu C)⟩
theorem k_FullListing {P : Program} {w : World} {K : PySem.W.Frag} {mg : Str → Option Value} {base : Heap} (C : HC2 P fa fn fs xf w K mg) : MkD P w K mg base 1 "FullListing" m_Listinguu_inituu := ⟨C.glo 11 rfl, _, He.mkr_ok (C.fact 37 rfl), by have e : He.fAd K ("FullListing", some "__init__") = He.fAd K ("Listing", some "__init__") := of_decide_eq_true (C.xt 84 rfl); exact (show ND.FnD P w K mg base 1 (He.fAd K ("FullListing", some "__init__")) m_Listinguu_inituu from e ▸ d_Listinguu_inituu C)⟩
theorem d__law_made {P : Program} {w : World} {K : PySem.W.Frag} {mg : Str → Option Value} {base : Heap} (C : HC2 P fa fn fs xf w K mg) : ND.FnD P w K mg base 3 (He.fAd K ("_law_made", none)) m__law_made := by
  obtain ⟨fd, F⟩ := C.def_ 12 rfl
  have F : FunD K "_law_made" "_law_made" (defArgs s__law_made) (defBody s__law_made) (defScope s__law_made) [] [] (He.fAd K ("_law_made", none)) fd := F
  refine fnd_of F sc__law_made (F.bindsN fun _ _ _ _ _ _ us hl => match us, hl with | [_], _ => rfl) fun cdv A outer s H E hr tk hp => ?_
  exact css_cons (cs_set 1 (ce_callTy c_list (C.free 7 rfl) boot_list (ca_cons (ce_var 0) (ca_nil))) sc__law_made.nd) (css_cons (cs_set 2 (ce_callTy c_list (C.free 7 rfl) boot_list (ca_cons (ce_var 0) (ca_nil))) sc__law_made.nd) (css_cons (cs_set 3 (ce_lst (ca_cons (ce_make (k_Listing C) (hr.mono (by decide : 2 ≤ 2)) tk (ca_cons (ce_var 1) (ca_nil))) (ca_cons (ce_make (k_NumberedListing C) (hr.mono (by decide : 2 ≤ 2)) tk (ca_cons (ce_callTy c_tuple (C.free 6 rfl) boot_tuple (ca_cons (ce_var 0) (ca_nil))) (ca_nil))) (ca_cons (ce_make (k_TitledListing C) (hr.mono (by decide : 2 ≤ 2)) tk (ca_cons (ce_var 2) (ca_nil))) (ca_cons (ce_make (k_FullListing C) (hr.mono (by decide : 2 ≤ 2)) tk (ca_cons (ce_var 1) (ca_nil))) (ca_nil)))))) sc__law_made.nd) (css_cons (cs_set 4 (ce_and (ce_cmp (o_eqD hr) (ce_var 1) (ce_var 0)) (ce_one (ce_cmp (o_eqD hr) (ce_var 2) (ce_var 0)))) sc__law_made.nd) (css_cons (cs_expr (ce_append (ce_var 1) (ce_tup (ca_cons (ce_str) (ca_cons (ce_int) (ca_cons (ce_int) (ca_cons (ce_int) (ca_cons (ce_int) (ca_nil))))))))) (css_cons (cs_expr (ce_reverse (ce_var 2))) (css_cons (cs_expr (ce_append (ce_var 2) (ce_tup (ca_cons (ce_str) (ca_cons (ce_int) (ca_cons (ce_int) (ca_cons (ce_int) (ca_cons (ce_int) (ca_nil))))))))) (css_cons (cs_if (ct_not (ct_truth (ce_var 4))) (css_one (cs_ret (ce_non))) (css_nil)) (css_one (cs_ret (ce_var 3))))))))))
theorem g__law_made {P : Program} {w : World} {K : PySem.W.Frag} {mg : Str → Option Value} {base : Heap} (C : HC2 P fa fn fs xf w K mg) : FnG P w K mg base 3 "_law_made" m__law_made := ⟨_, C.glo 38 rfl, d__law_made C⟩
theorem d_Listing_rows {P : Program} {w : World} {K : PySem.W.Frag} {mg : Str → Option Value} {base : Heap} (C : HC2 P fa fn fs xf w K mg) : ND.FnD P w K mg base 1 (He.fAd K ("Listing", some "rows")) m_Listing_rows := by
  obtain ⟨fd, F⟩ := C.def_ 13 rfl
  have F : FunD K "rows" "Listing.rows" (defArgs s_Listing_rows) (defBody s_Listing_rows) (defScope s_Listing_rows) [] [] (He.fAd K ("Listing", some "rows")) fd := F
  refine fnd_of F sc_Listing_rows (F.bindsN fun _ _ _ _ _ _ us hl => match us, hl with | [_], _ => rfl) fun cdv A outer s H E hr tk hp => ?_
  exact css_one (cs_ret (ce_lc [1, 2, 3, 4, 5] rfl sc_Listing_rows.nd (ci_val (ce_fld (ft_ok C) (ce_var 0))) (blkOk_by (N := N_Listing_rows) (sc := defScope s_Listing_rows) (own := [("name", 1), ("x", 2), ("y", 3), ("w", 4), ("h", 5)]) (by decide +kernel)) (fun _ _ _ _ _ => cg_tup rfl (cgs_cons (cg_name 1 sc_Listing_rows.nd) (cgs_cons (cg_name 2 sc_Listing_rows.nd) (cgs_cons (cg_name 3 sc_Listing_rows.nd) (cgs_cons (cg_name 4 sc_Listing_rows.nd) (cgs_cons (cg_name 5 sc_Listing_rows.nd) (cgs_nil))))))) (fun _ _ _ _ _ => cts_nil) (fun _ _ _ _ _ => ce_js (.cons (ce_fmtL 6 spw_l6 (ce_var 1)) (.cons (ce_fmtR 6 spw_r6 (ce_var 2)) (.cons (ce_fmtR 6 spw_r6 (ce_var 3)) (.cons (ce_fmtR 6 spw_r6 (ce_var 4)) (.cons (ce_fmtR 6 spw_r6 (ce_var 5)) .nil))))))))
theorem dL_Listing_rows {P : Program} {w : World} {K : PySem.W.Frag} {mg : Str → Option Value} {base : Heap} (C : HC2 P fa fn fs xf w K mg) : ND.FnD P w K mg base 1 (He.fAd K ("Listing", some "rows")) mL_Listing_rows := by
  obtain ⟨fd, F⟩ := C.def_ 13 rfl
  have F : FunD K "rows" "Listing.rows" (defArgs s_Listing_rows) (defBody s_Listing_rows) (defScope s_Listing_rows) [] [] (He.fAd K ("Listing", some "rows")) fd := F
  refine fnd_of F sc_Listing_rows (F.bindsN fun _ _ _ _ _ _ us hl => match us, hl with | [_], _ => rfl) fun cdv A outer s H E hr tk hp => ?_
  exact css_one (cs_ret (ce_lc [1, 2, 3, 4, 5] rfl sc_Listing_rows.nd (ci_val (ce_fld (ft_ok C) (ce_var 0))) (blkOk_by (N := N_Listing_rows) (sc := defScope s_Listing_rows) (own := [("name", 1), ("x", 2), ("y", 3), ("w", 4), ("h", 5)]) (by decide +kernel)) (fun _ _ _ _ _ => cg_tup rfl (cgs_cons (cg_name 1 sc_Listing_rows.nd) (cgs_cons (cg_name 2 sc_Listing_rows.nd) (cgs_cons (cg_name 3 sc_Listing_rows.nd) (cgs_cons (cg_name 4 sc_Listing_rows.nd) (cgs_cons (cg_name 5 sc_Listing_rows.nd) (cgs_nil))))))) (fun _ _ _ _ _ => cts_nil) (fun _ _ _ _ _ => ce_js (.cons (ce_fmtL 6 spw_l6 (ce_var 1)) (.cons (ce_fmtR 6 spw_r6 (ce_var 2)) (.cons (ce_fmtR 6 spw_r6 (ce_var 3)) (.cons (ce_fmtR 6 spw_r6 (ce_var 4)) (.cons (ce_fmtR 6 spw_r6 (ce_var 5)) .nil))))))))
theorem t_Listing_rows {P : Program} {w : World} {K : PySem.W.Frag} {mg : Str → Option Value} {base : Heap} (C : HC2 P fa fn fs xf w K mg) : MtD P w K mg base 1 "Listing" "rows" m_Listing_rows := ⟨He.cls_ok (C.fact 21 rfl), _, He.meth_ok (C.fact 39 rfl), d_Listing_rows C⟩
theorem tL_Listing_rows {P : Program} {w : World} {K : PySem.W.Frag} {mg : Str → Option Value} {base : Heap} (C : HC2 P fa fn fs xf w K mg) : MtD P w K mg base 1 "Listing" "rows" mL_Listing_rows := ⟨He.cls_ok (C.fact 21 rfl), _, He.meth_ok (C.fact 39 rfl), dL_Listing_rows C⟩
theorem d__numbered {P : Program} {w : World} {K : PySem.W.Frag} {mg : Str → Option Value} {base : Heap} (C : HC2 P fa fn fs xf w K mg) : ND.FnD P w K mg base 1 (He.fAd K ("_numbered", none)) m__numbered := by
  obtain ⟨fd, F⟩ := C.def_ 14 rfl
  have F : FunD K "_numbered" "_numbered" (defArgs s__numbered) (defBody s__numbered) (defScope s__numbered) [] [] (He.fAd K ("_numbered", none)) fd := F
  refine fnd_of F sc__numbered (F.bindsN fun _ _ _ _ _ _ us hl => match us, hl with | [_], _ => rfl) fun cdv A outer s H E hr tk hp => ?_
  exact css_one (cs_ret (ce_lc [1, 2] rfl sc__numbered.nd (ci_enum (C.free 8 rfl) (ce_var 0)) (blkOk_by (N := N__numbered) (sc := defScope s__numbered) (own := [("number", 1), ("row", 2)]) (by decide +kernel)) (fun _ _ _ _ _ => cg_tup rfl (cgs_cons (cg_name 1 sc__numbered.nd) (cgs_cons (cg_name 2 sc__numbered.nd) (cgs_nil)))) (fun _ _ _ _ _ => cts_nil) (fun _ _ _ _ _ => ce_js (.cons (ce_fmtR 3 spw_r3 (ce_var 1)) (.cons (ce_str) (.cons (ce_fmt (ce_var 2)) .nil))))))
theorem dL__numbered {P : Program} {w : World} {K : PySem.W.Frag} {mg : Str → Option Value} {base : Heap} (C : HC2 P fa fn fs xf w K mg) : ND.FnD P w K mg base 1 (He.fAd K ("_numbered", none)) mL__numbered := by
  obtain ⟨fd, F⟩ := C.def_ 14 rfl
  have F : FunD K "_numbered" "_numbered" (defArgs s__numbered) (defBody s__numbered) (defScope s__numbered) [] [] (He.fAd K ("_numbered", none)) fd := F
  refine fnd_of F sc__numbered (F.bindsN fun _ _ _ _ _ _ us hl => match us, hl with | [_], _ => rfl) fun cdv A outer s H E hr tk hp => ?_
  exact css_one (cs_ret (ce_lc [1, 2] rfl sc__numbered.nd (ci_enum (C.free 8 rfl) (ce_var 0)) (blkOk_by (N := N__numbered) (sc := defScope s__numbered) (own := [("number", 1), ("row", 2)]) (by decide +kernel)) (fun _ _ _ _ _ => cg_tup rfl (cgs_cons (cg_name 1 sc__numbered.nd) (cgs_cons (cg_name 2 sc__numbered.nd) (cgs_nil)))) (fun _ _ _ _ _ => cts_nil) (fun _ _ _ _ _ => ce_js (.cons (ce_fmtR 3 spw_r3 (ce_var 1)) (.cons (ce_str) (.cons (ce_fmt (ce_var 2)) .nil))))))
theorem g__numbered {P : Program} {w : World} {K : PySem.W.Frag} {mg : Str → Option Value} {base : Heap} (C : HC2 P fa fn fs xf w K mg) : FnG P w K mg base 1 "_numbered" m__numbered := ⟨_, C.glo 40 rfl, d__numbered C⟩
theorem gL__numbered {P : Program} {w : World} {K : PySem.W.Frag} {mg : Str → Option Value} {base : Heap} (C : HC2 P fa fn fs xf w K mg) : FnG P w K mg base 1 "_numbered" mL__numbered := ⟨_, C.glo 40 rfl, dL__numbered C⟩
theorem d_TitledListing_rows {P : Program} {w : World} {K : PySem.W.Frag} {mg : Str → Option Value} {base : Heap} (C : HC2 P fa fn fs xf w K mg) : ND.FnD P w K mg base 2 (He.fAd K ("TitledListing", some "rows")) m_TitledListing_rows := by
  obtain ⟨cc, cd, fd, SD⟩ := C.sup 0 (d := ds_TitledListing_rows) rfl rfl
  have S : NdefX.NScope ["self", "__class__"] ["self"] ["__class__"] (defScope s_TitledListing_rows) := NdefX.nscope_by (by decide +kernel)
  have hb : Binds K fd ["self"] [] := by
    obtain ⟨_, _, doc, pm, ctv, _, rfl, _, _⟩ := SD.ex
    exact Binds.all fun us hl => match us, hl with | [_], _ => rfl
  refine fnd_sup SD S rfl rfl hb fun A outer s H E hr tk => ?_
  exact cec_lst1 (lv := false) (ce_js (.cons (ce_str) (.cons (ce_fmt (ce_callB c_len (C.free 2 rfl) boot_len (ca_cons (ce_fld (ft_ok C) (ce_var 0)) (ca_nil)))) .nil))) (cec_super rfl SD (Option.isSome_iff_exists.mp (C.xt 6 rfl)) (He.eqO_ok (C.xt 7 rfl)) (C.free 9 rfl) (UpOk.cons (hr.mono (by decide : 1 ≤ 1)) ⟨of_decide_eq_true (C.xt 4 rfl), _, He.eqO_ok (C.xt 5 rfl), of_decide_eq_true (C.xt 2 rfl), C.xt 3 rfl, d_Listing_rows C⟩ (UpOk.cons (hr.mono (by decide : 1 ≤ 1)) ⟨of_decide_eq_true (C.xt 0 rfl), _, He.eqO_ok (C.xt 1 rfl), of_decide_eq_true (C.xt 2 rfl), C.xt 3 rfl, d_Listing_rows C⟩ UpOk.nil)) tk rfl rfl rfl rfl rfl rfl (by decide) rfl) rfl
theorem dL_TitledListing_rows {P : Program} {w : World} {K : PySem.W.Frag} {mg : Str → Option Value} {base : Heap} (C : HC2 P fa fn fs xf w K mg) : ND.FnD P w K mg base 2 (He.fAd K ("TitledListing", some "rows")) mL_TitledListing_rows := by
  obtain ⟨cc, cd, fd, SD⟩ := C.sup 0 (d := ds_TitledListing_rows) rfl rfl
  have S : NdefX.NScope ["self", "__class__"] ["self"] ["__class__"] (defScope s_TitledListing_rows) := NdefX.nscope_by (by decide +kernel)
  have hb : Binds K fd ["self"] [] := by
    obtain ⟨_, _, doc, pm, ctv, _, rfl, _, _⟩ := SD.ex
    exact Binds.all fun us hl => match us, hl with | [_], _ => rfl
  refine fnd_sup SD S rfl rfl hb fun A outer s H E hr tk => ?_
  exact cec_lst1 (lv := true) (ce_js (.cons (ce_str) (.cons (ce_fmt (ce_callB c_len (C.free 2 rfl) boot_len (ca_cons (ce_fld (ft_ok C) (ce_var 0)) (ca_nil)))) .nil))) (cec_super rfl SD (Option.isSome_iff_exists.mp (C.xt 6 rfl)) (He.eqO_ok (C.xt 7 rfl)) (C.free 9 rfl) (UpOk.cons (hr.mono (by decide : 1 ≤ 1)) ⟨of_decide_eq_true (C.xt 4 rfl), _, He.eqO_ok (C.xt 5 rfl), of_decide_eq_true (C.xt 2 rfl), C.xt 3 rfl, d_Listing_rows C⟩ (UpOk.cons (hr.mono (by decide : 1 ≤ 1)) ⟨of_decide_eq_true (C.xt 0 rfl), _, He.eqO_ok (C.xt 1 rfl), of_decide_eq_true (C.xt 2 rfl), C.xt 3 rfl, d_Listing_rows C⟩ UpOk.nil)) tk rfl rfl rfl rfl rfl rfl (by decide) rfl) rfl
theorem t_TitledListing_rows {P : Program} {w : World} {K : PySem.W.Frag} {mg : Str → Option Value} {base : Heap} (C : HC2 P fa fn fs xf w K mg) : MtD P w K mg base 2 "TitledListing" "rows" m_TitledListing_rows := ⟨He.cls_ok (C.fact 17 rfl), _, He.meth_ok (C.fact 41 rfl), d_TitledListing_rows C⟩
theorem tL_TitledListing_rows {P : Program} {w : World} {K : PySem.W.Frag} {mg : Str → Option Value} {base : Heap} (C : HC2 P fa fn fs xf w K mg) : MtD P w K mg base 2 "TitledListing" "rows" mL_TitledListing_rows := ⟨He.cls_ok (C.fact 17 rfl), _, He.meth_ok (C.fact 41 rfl), dL_TitledListing_rows C⟩
theorem d_NumberedListing_rows {P : Program} {w : World} {K : PySem.W.Frag} {mg : Str → Option Value} {base : Heap} (C : HC2 P fa fn fs xf w K mg) : ND.FnD P w K mg base 3 (He.fAd K ("NumberedListing", some "rows")) m_NumberedListing_rows := by
  obtain ⟨cc, cd, fd, SD⟩ := C.sup 1 (d := ds_NumberedListing_rows) rfl rfl
  have S : NdefX.NScope ["self", "__class__"] ["self"] ["__class__"] (defScope s_NumberedListing_rows) := NdefX.nscope_by (by decide +kernel)
  have hb : Binds K fd ["self"] [] := by
    obtain ⟨_, _, doc, pm, ctv, _, rfl, _, _⟩ := SD.ex
    exact Binds.all fun us hl => match us, hl with | [_], _ => rfl
  refine fnd_sup SD S rfl rfl hb fun A outer s H E hr tk => ?_
  exact cec_call (g__numbered C) (hr.mono (by decide : 1 ≤ 2)) tk (cec_super rfl SD (Option.isSome_iff_exists.mp (C.xt 14 rfl)) (He.eqO_ok (C.xt 7 rfl)) (C.free 9 rfl) (UpOk.cons (hr.mono (by decide : 1 ≤ 2)) ⟨of_decide_eq_true (C.xt 12 rfl), _, He.eqO_ok (C.xt 13 rfl), of_decide_eq_true (C.xt 2 rfl), C.xt 3 rfl, d_Listing_rows C⟩ (UpOk.cons (hr.mono (by decide : 2 ≤ 2)) ⟨of_decide_eq_true (C.xt 8 rfl), _, He.eqO_ok (C.xt 9 rfl), of_decide_eq_true (C.xt 10 rfl), C.xt 11 rfl, d_TitledListing_rows C⟩ UpOk.nil)) tk rfl rfl rfl rfl rfl rfl (by decide) rfl) rfl (by decide) rfl rfl
theorem dL_NumberedListing_rows {P : Program} {w : World} {K : PySem.W.Frag} {mg : Str → Option Value} {base : Heap} (C : HC2 P fa fn fs xf w K mg) : ND.FnD P w K mg base 3 (He.fAd K ("NumberedListing", some "rows")) mL_NumberedListing_rows := by
  obtain ⟨cc, cd, fd, SD⟩ := C.sup 1 (d := ds_NumberedListing_rows) rfl rfl
  have S : NdefX.NScope ["self", "__class__"] ["self"] ["__class__"] (defScope s_NumberedListing_rows) := NdefX.nscope_by (by decide +kernel)
  have hb : Binds K fd ["self"] [] := by
    obtain ⟨_, _, doc, pm, ctv, _, rfl, _, _⟩ := SD.ex
    exact Binds.all fun us hl => match us, hl with | [_], _ => rfl
  refine fnd_sup SD S rfl rfl hb fun A outer s H E hr tk => ?_
  exact cec_call (gL__numbered C) (hr.mono (by decide : 1 ≤ 2)) tk (cec_super rfl SD (Option.isSome_iff_exists.mp (C.xt 14 rfl)) (He.eqO_ok (C.xt 7 rfl)) (C.free 9 rfl) (UpOk.cons (hr.mono (by decide : 1 ≤ 2)) ⟨of_decide_eq_true (C.xt 12 rfl), _, He.eqO_ok (C.xt 13 rfl), of_decide_eq_true (C.xt 2 rfl), C.xt 3 rfl, d_Listing_rows C⟩ (UpOk.cons (hr.mono (by decide : 2 ≤ 2)) ⟨of_decide_eq_true (C.xt 8 rfl), _, He.eqO_ok (C.xt 9 rfl), of_decide_eq_true (C.xt 10 rfl), C.xt 11 rfl, d_TitledListing_rows C⟩ UpOk.nil)) tk rfl rfl rfl rfl rfl rfl (by decide) rfl) rfl (by decide) rfl rfl
theorem t_NumberedListing_rows {P : Program} {w : World} {K : PySem.W.Frag} {mg : Str → Option Value} {base : Heap} (C : HC2 P fa fn fs xf w K mg) : MtD P w K mg base 3 "NumberedListing" "rows" m_NumberedListing_rows := ⟨He.cls_ok (C.fact 19 rfl), _, He.meth_ok (C.fact 42 rfl), d_NumberedListing_rows C⟩
theorem tL_NumberedListing_rows {P : Program} {w : World} {K : PySem.W.Frag} {mg : Str → Option Value} {base : Heap} (C : HC2 P fa fn fs xf w K mg) : MtD P w K mg base 3 "NumberedListing" "rows" mL_NumberedListing_rows := ⟨He.cls_ok (C.fact 19 rfl), _, He.meth_ok (C.fact 42 rfl), dL_NumberedListing_rows C⟩
theorem d_FullListing_rows {P : Program} {w : World} {K : PySem.W.Frag} {mg : Str → Option Value} {base : Heap} (C : HC2 P fa fn fs xf w K mg) : ND.FnD P w K mg base 4 (He.fAd K ("FullListing", some "rows")) m_FullListing_rows := by
  obtain ⟨cc, cd, fd, SD⟩ := C.sup 2 (d := ds_FullListing_rows) rfl rfl
  have S : NdefX.NScope ["self", "__class__"] ["self"] ["__class__"] (defScope s_FullListing_rows) := NdefX.nscope_by (by decide +kernel)
  have hb : Binds K fd ["self"] [] := by
    obtain ⟨_, _, doc, pm, ctv, _, rfl, _, _⟩ := SD.ex
    exact Binds.all fun us hl => match us, hl with | [_], _ => rfl
  refine fnd_sup SD S rfl rfl hb fun A outer s H E hr tk => ?_
  exact cec_super rfl SD (Option.isSome_iff_exists.mp (C.xt 19 rfl)) (He.eqO_ok (C.xt 7 rfl)) (C.free 9 rfl) (UpOk.cons (hr.mono (by decide : 3 ≤ 3)) ⟨of_decide_eq_true (C.xt 15 rfl), _, He.eqO_ok (C.xt 16 rfl), of_decide_eq_true (C.xt 17 rfl), C.xt 18 rfl, d_NumberedListing_rows C⟩ UpOk.nil) tk rfl rfl rfl rfl rfl rfl (by decide) rfl
theorem dL_FullListing_rows {P : Program} {w : World} {K : PySem.W.Frag} {mg : Str → Option Value} {base : Heap} (C : HC2 P fa fn fs xf w K mg) : ND.FnD P w K mg base 4 (He.fAd K ("FullListing", some "rows")) mL_FullListing_rows := by
  obtain ⟨cc, cd, fd, SD⟩ := C.sup 2 (d := ds_FullListing_rows) rfl rfl
  have S : NdefX.NScope ["self", "__class__"] ["self"] ["__class__"] (defScope s_FullListing_rows) := NdefX.nscope_by (by decide +kernel)
  have hb : Binds K fd ["self"] [] := by
    obtain ⟨_, _, doc, pm, ctv, _, rfl, _, _⟩ := SD.ex
    exact Binds.all fun us hl => match us, hl with | [_], _ => rfl
  refine fnd_sup SD S rfl rfl hb fun A outer s H E hr tk => ?_
  exact cec_super rfl SD (Option.isSome_iff_exists.mp (C.xt 19 rfl)) (He.eqO_ok (C.xt 7 rfl)) (C.free 9 rfl) (UpOk.cons (hr.mono (by decide : 3 ≤ 3)) ⟨of_decide_eq_true (C.xt 15 rfl), _, He.eqO_ok (C.xt 16 rfl), of_decide_eq_true (C.xt 17 rfl), C.xt 18 rfl, dL_NumberedListing_rows C⟩ UpOk.nil) tk rfl rfl rfl rfl rfl rfl (by decide) rfl
theorem t_FullListing_rows {P : Program} {w : World} {K : PySem.W.Frag} {mg : Str → Option Value} {base : Heap} (C : HC2 P fa fn fs xf w K mg) : MtD P w K mg base 4 "FullListing" "rows" m_FullListing_rows := ⟨He.cls_ok (C.fact 15 rfl), _, He.meth_ok (C.fact 43 rfl), d_FullListing_rows C⟩
theorem tL_FullListing_rows {P : Program} {w : World} {K : PySem.W.Frag} {mg : Str → Option Value} {base : Heap} (C : HC2 P fa fn fs xf w K mg) : MtD P w K mg base 4 "FullListing" "rows" mL_FullListing_rows := ⟨He.cls_ok (C.fact 15 rfl), _, He.meth_ok (C.fact 43 rfl), dL_FullListing_rows C⟩
theorem d__law_told {P : Program} {w : World} {K : PySem.W.Frag} {mg : Str → Option Value} {base : Heap} (C : HC2 P fa fn fs xf w K mg) : ND.FnD P w K mg base 1 (He.fAd K ("_law_told", none)) m__law_told := by
  obtain ⟨fd, F⟩ := C.def_ 15 rfl
  have F : FunD K "_law_told" "_law_told" (defArgs s__law_told) (defBody s__law_told) (defScope s__law_told) [] [] (He.fAd K ("_law_told", none)) fd := F
  refine fnd_of F sc__law_told (F.bindsN fun _ _ _ _ _ _ us hl => match us, hl with | [_, _], _ => rfl) fun cdv A outer s H E hr tk hp => ?_
  exact css_cons (cs_if (ct_w (cw_or (ct_not (ct_truth (ce_callB (c_isi (cs_ok C) (it_ok C)) (C.free 10 rfl) boot_isinstance (ca_cons (ce_var 0) (ca_cons (ce_ty "list" (C.free 7 rfl) boot_list) (ca_nil)))))) (cw_or1 (ct_cmp (o_neD hr) (ce_callB c_len (C.free 2 rfl) boot_len (ca_cons (ce_var 0) (ca_nil))) (ce_callB c_len (C.free 2 rfl) boot_len (ca_cons (ce_var 1) (ca_nil))))))) (css_one (cs_ret (ce_bl))) (css_nil)) (css_cons (cs_for hp rfl (ci_range1 (C.free 3 rfl) (ce_callB c_len (C.free 2 rfl) boot_len (ca_cons (ce_var 1) (ca_nil)))) (cg_name 2 sc__law_told.nd) (css_one (cs_if (ct_w (cw_or (ct_not (ct_truth (ce_callB (c_isi (cs_ok C) (it_ok C)) (C.free 10 rfl) boot_isinstance (ca_cons (ce_ix (ce_var 0) (ce_var 2)) (ca_cons (ce_ty "str" (C.free 5 rfl) boot_str) (ca_nil)))))) (cw_or1 (ct_cmp (o_neD hr) (ce_ix (ce_var 0) (ce_var 2)) (ce_ix (ce_var 1) (ce_var 2)))))) (css_one (cs_ret (ce_bl))) (css_nil)))) (css_one (cs_ret (ce_bl))))
theorem g__law_told {P : Program} {w : World} {K : PySem.W.Frag} {mg : Str → Option Value} {base : Heap} (C : HC2 P fa fn fs xf w K mg) : FnG P w K mg base 1 "_law_told" m__law_told := ⟨_, C.glo 44 rfl, d__law_told C⟩
theorem d__law_kinds {P : Program} {w : World} {K : PySem.W.Frag} {mg : Str → Option Value} {base : Heap} (C : HC2 P fa fn fs xf w K mg) : ND.FnD P w K mg base 1 (He.fAd K ("_law_kinds", none)) m__law_kinds := by
  obtain ⟨fd, F⟩ := C.def_ 16 rfl
  have F : FunD K "_law_kinds" "_law_kinds" (defArgs s__law_kinds) (defBody s__law_kinds) (defScope s__law_kinds) [] [] (He.fAd K ("_law_kinds", none)) fd := F
  refine fnd_of F sc__law_kinds (F.bindsN fun _ _ _ _ _ _ us hl => match us, hl with | [_], _ => rfl) fun cdv A outer s H E hr tk hp => ?_
  exact css_cons (cs_set 1 (ce_lst (ca_cons (ce_callB (c_isi (cs_ok C) (it_ok C)) (C.free 10 rfl) boot_isinstance (ca_cons (ce_var 0) (ca_cons (ce_glo "Listing" (C.glo 14 rfl)) (ca_nil)))) (ca_cons (ce_callB (c_isi (cs_ok C) (it_ok C)) (C.free 10 rfl) boot_isinstance (ca_cons (ce_var 0) (ca_cons (ce_glo "NumberedListing" (C.glo 13 rfl)) (ca_nil)))) (ca_nil)))) sc__law_kinds.nd) (css_one (cs_ret (ce_bin o_addX (ce_var 1) (ce_lst (ca_cons (ce_callB (c_isi (cs_ok C) (it_ok C)) (C.free 10 rfl) boot_isinstance (ca_cons (ce_var 0) (ca_cons (ce_glo "TitledListing" (C.glo 12 rfl)) (ca_nil)))) (ca_cons (ce_callB (c_isi (cs_ok C) (it_ok C)) (C.free 10 rfl) boot_isinstance (ca_cons (ce_var 0) (ca_cons (ce_glo "FullListing" (C.glo 11 rfl)) (ca_nil)))) (ca_nil)))))))
theorem g__law_kinds {P : Program} {w : World} {K : PySem.W.Frag} {mg : Str → Option Value} {base : Heap} (C : HC2 P fa fn fs xf w K mg) : FnG P w K mg base 1 "_law_kinds" m__law_kinds := ⟨_, C.glo 45 rfl, d__law_kinds C⟩
theorem d_law {P : Program} {w : World} {K : PySem.W.Frag} {mg : Str → Option Value} {base : Heap} (C : HC2 P fa fn fs xf w K mg) : ND.FnD P w K mg base 5 (He.fAd K ("law", none)) m_law := by
  obtain ⟨fd, F⟩ := C.def_ 17 rfl
  have F : FunD K "law" "law" (defArgs s_law) (defBody s_law) (defScope s_law) [] [] (He.fAd K ("law", none)) fd := F
  refine fnd_of F sc_law (F.bindsN fun _ _ _ _ _ _ us hl => match us, hl with | [_], _ => rfl) fun cdv A outer s H E hr tk hp => ?_
  exact css_cons (cs_set 1 (ce_call (g__law_bag C) (hr.mono (by decide : 1 ≤ 4)) tk (ca_cons (ce_var 0) (ca_nil))) sc_law.nd) (css_cons (cs_set 2 (ce_call (g__law_boxes C) (hr.mono (by decide : 4 ≤ 4)) tk (ca_cons (ce_var 1) (ca_cons (ce_cmp (o_eqD hr) (ce_call (g__law_draw C) (hr.mono (by decide : 1 ≤ 4)) tk (ca_cons (ce_var 1) (ca_cons (ce_int) (ca_nil)))) (ce_int)) (ca_nil)))) sc_law.nd) (css_cons (cs_set 3 (ce_call (g__law_boxes C) (hr.mono (by decide : 4 ≤ 4)) tk (ca_cons (ce_var 1) (ca_cons (ce_bl) (ca_nil)))) sc_law.nd) (css_cons (cs_set 4 (ce_call (g__law_due C) (hr.mono (by decide : 3 ≤ 4)) tk (ca_cons (ce_var 2) (ca_nil))) sc_law.nd) (css_cons (cs_set 5 (ce_call (g__law_due C) (hr.mono (by decide : 3 ≤ 4)) tk (ca_cons (ce_var 3) (ca_nil))) sc_law.nd) (css_cons (cs_set 6 (ce_call (g__law_made C) (hr.mono (by decide : 3 ≤ 4)) tk (ca_cons (ce_var 2) (ca_nil))) sc_law.nd) (css_cons (cs_set 7 (ce_call (g__law_made C) (hr.mono (by decide : 3 ≤ 4)) tk (ca_cons (ce_var 3) (ca_nil))) sc_law.nd) (css_cons (cs_if (ct_w (cw_or (ct_cmp o_is (ce_var 6) (ce_non)) (cw_or1 (ct_cmp o_is (ce_var 7) (ce_non))))) (css_one (cs_ret (ce_bl))) (css_nil)) (css_cons (cs_set 8 (ce_lst (ca_cons (ce_lst (ca_cons (ce_bl) (ca_cons (ce_bl) (ca_cons (ce_bl) (ca_cons (ce_bl) (ca_nil)))))) (ca_cons (ce_lst (ca_cons (ce_bl) (ca_cons (ce_bl) (ca_cons (ce_bl) (ca_cons (ce_bl) (ca_nil)))))) (ca_nil)))) sc_law.nd) (css_cons (cs_set 8 (ce_bin o_addX (ce_var 8) (ce_lst (ca_cons (ce_lst (ca_cons (ce_bl) (ca_cons (ce_bl) (ca_cons (ce_bl) (ca_cons (ce_bl) (ca_nil)))))) (ca_cons (ce_lst (ca_cons (ce_bl) (ca_cons (ce_bl) (ca_cons (ce_bl) (ca_cons (ce_bl) (ca_nil)))))) (ca_nil))))) sc_law.nd) (css_cons (cs_for hp rfl (ci_range1 (C.free 3 rfl) (ce_int)) (cg_name 9 sc_law.nd) (css_one (cs_for hp rfl (ci_range1 (C.free 3 rfl) (ce_int)) (cg_name 10 sc_law.nd) (css_cons (cs_set 11 (ce_meth0 (MtOk.cons (hr.mono (by decide : 1 ≤ 4)) (tL_Listing_rows C) (MtOk.cons (hr.mono (by decide : 3 ≤ 4)) (tL_NumberedListing_rows C) (MtOk.cons (hr.mono (by decide : 2 ≤ 4)) (tL_TitledListing_rows C) (MtOk.cons (hr.mono (by decide : 4 ≤ 4)) (tL_FullListing_rows C) MtOk.nil)))) tk (ce_ix (ce_var 6) (ce_var 10))) sc_law.nd) (css_cons (cs_if (ct_w (cw_or (ct_not (ct_truth (ce_call (g__law_told C) (hr.mono (by decide : 1 ≤ 4)) tk (ca_cons (ce_var 11) (ca_cons (ce_ix (ce_var 4) (ce_var 10)) (ca_nil)))))) (cw_or1 (ct_cmp (o_neD hr) (ce_call (g__law_kinds C) (hr.mono (by decide : 1 ≤ 4)) tk (ca_cons (ce_ix (ce_var 6) (ce_var 10)) (ca_nil))) (ce_ix (ce_var 8) (ce_var 10)))))) (css_one (cs_ret (ce_bl))) (css_nil)) (css_cons (cs_expr (ce_reverse (ce_var 11))) (css_cons (cs_expr (ce_append (ce_var 11) (ce_str))) (css_cons (cs_set 11 (ce_meth0 (MtOk.cons (hr.mono (by decide : 1 ≤ 4)) (tL_Listing_rows C) (MtOk.cons (hr.mono (by decide : 3 ≤ 4)) (tL_NumberedListing_rows C) (MtOk.cons (hr.mono (by decide : 2 ≤ 4)) (tL_TitledListing_rows C) (MtOk.cons (hr.mono (by decide : 4 ≤ 4)) (tL_FullListing_rows C) MtOk.nil)))) tk (ce_ix (ce_var 7) (ce_var 10))) sc_law.nd) (css_cons (cs_if (ct_w (cw_or (ct_not (ct_truth (ce_call (g__law_told C) (hr.mono (by decide : 1 ≤ 4)) tk (ca_cons (ce_var 11) (ca_cons (ce_ix (ce_var 5) (ce_var 10)) (ca_nil)))))) (cw_or1 (ct_cmp (o_neD hr) (ce_call (g__law_kinds C) (hr.mono (by decide : 1 ≤ 4)) tk (ca_cons (ce_ix (ce_var 7) (ce_var 10)) (ca_nil))) (ce_ix (ce_var 8) (ce_var 10)))))) (css_one (cs_ret (ce_bl))) (css_nil)) (css_one (cs_expr (ce_clear (ce_var 11))))))))))))) (css_one (cs_ret (ce_bl)))))))))))))
abbrev iLaw : Nat := 46
theorem o_law {P : Program} {w : World} {K : PySem.W.Frag} {mg : Str → Option Value} {base : Heap} (C : HC2 P fa fn fs xf w K mg) {fd : FuncData} (F : FunD K "law" "law" (defArgs s_law) (defBody s_law) (defScope s_law) [] [] (He.fAd K ("law", none)) fd) : FnOk P w K mg base (L2.CX P w) 5 (He.fAd K ("law", none)) fd ["script"] (spM K m_law) := by
  refine fnok_of F sc_law (F.bindsN fun _ _ _ _ _ _ us hl => match us, hl with | [_], _ => rfl) fun cdv A outer s H E hr tk hp => ?_
  exact css_cons (cs_set 1 (ce_call (g__law_bag C) (hr.mono (by decide : 1 ≤ 4)) tk (ca_cons (ce_var 0) (ca_nil))) sc_law.nd) (css_cons (cs_set 2 (ce_call (g__law_boxes C) (hr.mono (by decide : 4 ≤ 4)) tk (ca_cons (ce_var 1) (ca_cons (ce_cmp (o_eqD hr) (ce_call (g__law_draw C) (hr.mono (by decide : 1 ≤ 4)) tk (ca_cons (ce_var 1) (ca_cons (ce_int) (ca_nil)))) (ce_int)) (ca_nil)))) sc_law.nd) (css_cons (cs_set 3 (ce_call (g__law_boxes C) (hr.mono (by decide : 4 ≤ 4)) tk (ca_cons (ce_var 1) (ca_cons (ce_bl) (ca_nil)))) sc_law.nd) (css_cons (cs_set 4 (ce_call (g__law_due C) (hr.mono (by decide : 3 ≤ 4)) tk (ca_cons (ce_var 2) (ca_nil))) sc_law.nd) (css_cons (cs_set 5 (ce_call (g__law_due C) (hr.mono (by decide : 3 ≤ 4)) tk (ca_cons (ce_var 3) (ca_nil))) sc_law.nd) (css_cons (cs_set 6 (ce_call (g__law_made C) (hr.mono (by decide : 3 ≤ 4)) tk (ca_cons (ce_var 2) (ca_nil))) sc_law.nd) (css_cons (cs_set 7 (ce_call (g__law_made C) (hr.mono (by decide : 3 ≤ 4)) tk (ca_cons (ce_var 3) (ca_nil))) sc_law.nd) (css_cons (cs_if (ct_w (cw_or (ct_cmp o_is (ce_var 6) (ce_non)) (cw_or1 (ct_cmp o_is (ce_var 7) (ce_non))))) (css_one (cs_ret (ce_bl))) (css_nil)) (css_cons (cs_set 8 (ce_lst (ca_cons (ce_lst (ca_cons (ce_bl) (ca_cons (ce_bl) (ca_cons (ce_bl) (ca_cons (ce_bl) (ca_nil)))))) (ca_cons (ce_lst (ca_cons (ce_bl) (ca_cons (ce_bl) (ca_cons (ce_bl) (ca_cons (ce_bl) (ca_nil)))))) (ca_nil)))) sc_law.nd) (css_cons (cs_set 8 (ce_bin o_addX (ce_var 8) (ce_lst (ca_cons (ce_lst (ca_cons (ce_bl) (ca_cons (ce_bl) (ca_cons (ce_bl) (ca_cons (ce_bl) (ca_nil)))))) (ca_cons (ce_lst (ca_cons (ce_bl) (ca_cons (ce_bl) (ca_cons (ce_bl) (ca_cons (ce_bl) (ca_nil)))))) (ca_nil))))) sc_law.nd) (css_cons (cs_for hp rfl (ci_range1 (C.free 3 rfl) (ce_int)) (cg_name 9 sc_law.nd) (css_one (cs_for hp rfl (ci_range1 (C.free 3 rfl) (ce_int)) (cg_name 10 sc_law.nd) (css_cons (cs_set 11 (ce_meth0 (MtOk.cons (hr.mono (by decide : 1 ≤ 4)) (tL_Listing_rows C) (MtOk.cons (hr.mono (by decide : 3 ≤ 4)) (tL_NumberedListing_rows C) (MtOk.cons (hr.mono (by decide : 2 ≤ 4)) (tL_TitledListing_rows C) (MtOk.cons (hr.mono (by decide : 4 ≤ 4)) (tL_FullListing_rows C) MtOk.nil)))) tk (ce_ix (ce_var 6) (ce_var 10))) sc_law.nd) (css_cons (cs_if (ct_w (cw_or (ct_not (ct_truth (ce_call (g__law_told C) (hr.mono (by decide : 1 ≤ 4)) tk (ca_cons (ce_var 11) (ca_cons (ce_ix (ce_var 4) (ce_var 10)) (ca_nil)))))) (cw_or1 (ct_cmp (o_neD hr) (ce_call (g__law_kinds C) (hr.mono (by decide : 1 ≤ 4)) tk (ca_cons (ce_ix (ce_var 6) (ce_var 10)) (ca_nil))) (ce_ix (ce_var 8) (ce_var 10)))))) (css_one (cs_ret (ce_bl))) (css_nil)) (css_cons (cs_expr (ce_reverse (ce_var 11))) (css_cons (cs_expr (ce_append (ce_var 11) (ce_str))) (css_cons (cs_set 11 (ce_meth0 (MtOk.cons (hr.mono (by decide : 1 ≤ 4)) (tL_Listing_rows C) (MtOk.cons (hr.mono (by decide : 3 ≤ 4)) (tL_NumberedListing_rows C) (MtOk.cons (hr.mono (by decide : 2 ≤ 4)) (tL_TitledListing_rows C) (MtOk.cons (hr.mono (by decide : 4 ≤ 4)) (tL_FullListing_rows C) MtOk.nil)))) tk (ce_ix (ce_var 7) (ce_var 10))) sc_law.nd) (css_cons (cs_if (ct_w (cw_or (ct_not (ct_truth (ce_call (g__law_told C) (hr.mono (by decide : 1 ≤ 4)) tk (ca_cons (ce_var 11) (ca_cons (ce_ix (ce_var 5) (ce_var 10)) (ca_nil)))))) (cw_or1 (ct_cmp (o_neD hr) (ce_call (g__law_kinds C) (hr.mono (by decide : 1 ≤ 4)) tk (ca_cons (ce_ix (ce_var 7) (ce_var 10)) (ca_nil))) (ce_ix (ce_var 8) (ce_var 10)))))) (css_one (cs_ret (ce_bl))) (css_nil)) (css_one (cs_expr (ce_clear (ce_var 11))))))))))))) (css_one (cs_ret (ce_bl)))))))))))))
theorem g_law {P : Program} {w : World} {K : PySem.W.Frag} {mg : Str → Option Value} {base : Heap} (C : HC2 P fa fn fs xf w K mg) : FnG P w K mg base 5 "law" m_law := ⟨_, C.glo 46 rfl, d_law C⟩
end K83
namespace K83
open PySem L2 ND
/-! ### draws -/
theorem draw_tail {n : Int} (hn : 0 < n) {seed turn : Int} (h1 : 0 ≤ seed) (h2 : seed < 1000000007) (h3 : 0 ≤ turn) (h4 : turn < 2 ^ 60) (p : Nat) (big left : Int) (cells : List D) :
    ∃ d : Int, 0 ≤ d ∧ d < n ∧ ∀ (r : Sto) (c x3 x4 x5 x6 : Option D), y__law_draw_4 [some (.ref 0), some (.int n), c, x3, x4, x5, x6] (.lst [.lst cells, .int p, .int big, .int seed, .int turn, .int left] :: r) = .rt (.int d) (.lst [.lst cells, .int p, .int big, .int seed, .int turn, .int left] :: r) := by
  generalize ea : (seed * 48271 + turn * 69621 + 12345) % 2147483647 = a
  have ha : 0 ≤ a ∧ a < 2147483647 := by omega
  generalize eb : (a * a + turn * 3571 + 40692) % 2147483399 = b
  have hb : 0 ≤ b ∧ b < 2147483399 := by omega
  generalize ec : (b * b + b / 97) % 2147483629 = t
  refine ⟨t / 3 % n, Int.emod_nonneg _ (by omega), Int.emod_lt_of_pos _ hn, fun r c x3 x4 x5 x6 => ?_⟩
  have m1 := op_mulS (st := .lst [.lst cells, .int p, .int big, .int seed, .int turn, .int left] :: r) (i := seed) (j := 48271) h1 (by omega) (by decide) (by decide)
  have m2 := op_mulS (st := .lst [.lst cells, .int p, .int big, .int seed, .int turn, .int left] :: r) (i := turn) (j := 69621) h3 h4 (by decide) (by decide)
  have m3 := op_mulS (st := .lst [.lst cells, .int p, .int big, .int seed, .int turn, .int left] :: r) (i := turn) (j := 3571) h3 h4 (by decide) (by decide)
  have m4 := op_mulS (st := .lst [.lst cells, .int p, .int big, .int seed, .int turn, .int left] :: r) (i := a) (j := a) ha.1 (by omega) ha.1 (by omega)
  have m5 := op_mulS (st := .lst [.lst cells, .int p, .int big, .int seed, .int turn, .int left] :: r) (i := b) (j := b) hb.1 (by omega) hb.1 (by omega)
  have q1 := op_modI (st := .lst [.lst cells, .int p, .int big, .int seed, .int turn, .int left] :: r) (i := seed * 48271 + turn * 69621 + 12345) (j := 2147483647) (by decide)
  have q2 := op_modI (st := .lst [.lst cells, .int p, .int big, .int seed, .int turn, .int left] :: r) (i := a * a + turn * 3571 + 40692) (j := 2147483399) (by decide)
  have q3 := op_modI (st := .lst [.lst cells, .int p, .int big, .int seed, .int turn, .int left] :: r) (i := b * b + b / 97) (j := 2147483629) (by decide)
  have q4 := op_divS (st := .lst [.lst cells, .int p, .int big, .int seed, .int turn, .int left] :: r) (i := b) (j := 97) (by decide) (by decide)
  have q5 := op_divS (st := .lst [.lst cells, .int p, .int big, .int seed, .int turn, .int left] :: r) (i := t) (j := 3) (by decide) (by decide)
  have q6 := op_modI (st := .lst [.lst cells, .int p, .int big, .int seed, .int turn, .int left] :: r) (i := t / 3) (j := n) hn
  rw [ea] at q1
  rw [eb] at q2
  rw [ec] at q3
  simp [y__law_draw_4, y__law_draw_5, y__law_draw_6, y__law_draw_7, m1, m2, m3, m4, m5, q1, q2, q3, q4, q5, q6]
theorem draw_mid {n : Int} (hn : 0 < n) (hn2 : n < 2 ^ 60) {cells : List Int} {big seed turn : Int} (hc : ∀ c ∈ cells, 0 ≤ c) (hb : 0 ≤ big) (h1 : 0 ≤ seed) (h2 : seed < 1000000007) (h3 : 0 ≤ turn) {k : Nat} (h4 : turn ≤ k) (hk : k < 2 ^ 59) (p : Nat) (left : Int) :
    ∃ (d : Int) (b' : SO), BagOk b' (k + 1) ∧ 0 ≤ d ∧ d < n ∧ ∀ (r : Sto) (c : Option D), y__law_draw_1 [some (.ref 0), some (.int n), c, none, none, none, none] (.lst [.lst (cells.map .int), .int p, .int big, .int seed, .int turn, .int left] :: r) = .rt (.int d) (b' :: r) := by
  by_cases hbig : 0 < big
  · refine ⟨big % n, .lst [.lst (cells.map .int), .int p, .int (big / n), .int seed, .int turn, .int left], ⟨cells, p, big / n, seed, turn, left, rfl, hc, Int.ediv_nonneg hb (by omega), h1, h2, h3, by omega⟩, Int.emod_nonneg _ (by omega), Int.emod_lt_of_pos _ hn, fun r c => ?_⟩
    have q1 := op_modI (st := .lst [.lst (cells.map .int), .int p, .int big, .int seed, .int turn, .int left] :: r) (i := big) (j := n) hn
    have q2 := op_divS (st := .lst [.lst (cells.map .int), .int p, .int big, .int seed, .int turn, .int left] :: r) (i := big) (j := n) hn hn2
    simp [y__law_draw_1, hbig, q1, q2]
  · by_cases hl : 0 < left
    · obtain ⟨d, hd, hd2, e⟩ := draw_tail hn (seed := seed) (turn := turn + 1) h1 h2 (by omega) (by omega) p big (left - 1) (cells.map .int)
      refine ⟨d, _, ⟨cells, p, big, seed, turn + 1, left - 1, rfl, hc, hb, h1, h2, by omega, by push_cast; omega⟩, hd, hd2, fun r c => ?_⟩
      simp [y__law_draw_1, y__law_draw_2, y__law_draw_3, hbig, hl, e]
    · obtain ⟨d, hd, hd2, e⟩ := draw_tail hn (seed := seed) (turn := turn + 1) h1 h2 (by omega) (by omega) p big left (cells.map .int)
      refine ⟨d, _, ⟨cells, p, big, seed, turn + 1, left, rfl, hc, hb, h1, h2, by omega, by push_cast; omega⟩, hd, hd2, fun r c => ?_⟩
      simp [y__law_draw_1, y__law_draw_2, y__law_draw_3, hbig, hl, e]
/-- one draw -/
theorem draw_ok {b : SO} {k : Nat} (hb : BagOk b k) (hk : k < 2 ^ 59) {n : Int} (hn : 0 < n) (hn2 : n < 2 ^ 60) :
    ∃ (d : Int) (b' : SO), BagOk b' (k + 1) ∧ 0 ≤ d ∧ d < n ∧ ∀ r : Sto, m__law_draw [.ref 0, .int n] (b :: r) = .ok (.int d) (b' :: r) := by
  obtain ⟨cells, p, big, seed, turn, left, rfl, hc, h0, h1, h2, h3, h4⟩ := hb.ex
  have fin1 : ∀ {d : Int} {b' : SO} {r : Sto} {s : SRes}, BagOk b' (k + 1) → y__law_draw [some (.ref 0), some (.int n), none, none, none, none, none] (.lst [.lst (cells.map .int), .int p, .int big, .int seed, .int turn, .int left] :: r) = .rt (.int d) (b' :: r) →
      m__law_draw [.ref 0, .int n] (.lst [.lst (cells.map .int), .int p, .int big, .int seed, .int turn, .int left] :: r) = .ok (.int d) (b' :: r) := by
    intro d b' r s hb' e
    have e2 : m__law_draw [.ref 0, .int n] (.lst [.lst (cells.map .int), .int p, .int big, .int seed, .int turn, .int left] :: r) = fnEnd false (.lst [.lst (cells.map .int), .int p, .int big, .int seed, .int turn, .int left] :: r) (y__law_draw [some (.ref 0), some (.int n), none, none, none, none, none] (.lst [.lst (cells.map .int), .int p, .int big, .int seed, .int turn, .int left] :: r)) := rfl
    rw [e2, e, end_rt_f, fin_bag0 hb'.pd rfl]
  by_cases hA : big = 0 ∧ left = 0 ∧ p < cells.length
  · obtain ⟨rfl, rfl, hp⟩ := hA
    have hc0 : 0 ≤ cells[p] := hc _ (List.getElem_mem hp)
    have hi : (cells.map D.int)[p]? = some (.int cells[p]) := by rw [List.getElem?_map, List.getElem?_eq_getElem hp] <;> rfl
    have ha : atI (cells.map D.int) (p : Int) = some (.int cells[p]) := by rw [at_nat, hi]
    have pw : ∀ st : Sto, powI (.int 10) (.int 18) st = .ok (.int (10 ^ 18)) st := fun st => op_powI (powC_mk (by decide) (by decide) (by decide))
    by_cases hbig : 10 ^ 18 ≤ cells[p]
    · obtain ⟨d, b', hb', hd, hd2, e⟩ := draw_mid hn hn2 hc hc0 h1 h2 h3 h4 hk (p + 1) 0
      refine ⟨d, b', hb', hd, hd2, fun r => fin1 (s := .bad) hb' ?_⟩
      have e' := e r (some (.int cells[p]))
      simp at hbig
      simp [y__law_draw, ha, hp, pw, hbig]
      simpa using e'
    · obtain ⟨d, b', hb', hd, hd2, e⟩ := draw_mid hn hn2 (big := 0) (seed := (seed * 31 + cells[p]) % 1000000007) hc (by decide) (by omega) (by omega) h3 h4 hk (p + 1) 5
      refine ⟨d, b', hb', hd, hd2, fun r => fin1 (s := .bad) hb' ?_⟩
      have e' := e r (some (.int cells[p]))
      have q1 : ∀ st : Sto, mulI (.int seed) (.int 31) st = .ok (.int (seed * 31)) st := fun st => op_mulS h1 (by omega) (by decide) (by decide)
      have q2 : ∀ st : Sto, modI (.int (seed * 31 + cells[p])) (.int 1000000007) st = .ok (.int ((seed * 31 + cells[p]) % 1000000007)) st := fun st => op_modI (by decide)
      simp at hbig
      have hbig' : ¬ (1000000000000000000 ≤ cells[p]) := by omega
      simp [y__law_draw, ha, hp, pw, hbig', q1, q2]
      simpa using e'
  · obtain ⟨d, b', hb', hd, hd2, e⟩ := draw_mid hn hn2 hc h0 h1 h2 h3 h4 hk p left
    refine ⟨d, b', hb', hd, hd2, fun r => fin1 (s := .bad) hb' ?_⟩
    have e' := e r none
    by_cases ha : big = 0
    · by_cases hl : left = 0
      · have hp : ¬ p < cells.length := fun h => hA ⟨ha, hl, h⟩
        have hp' : ¬ (p : Int) < (cells.length : Int) := by omega
        simp [y__law_draw, ha, hl, hp']
        simpa [ha, hl] using e'
      · simp [y__law_draw, ha, hl]
        simpa [ha] using e'
    · simp [y__law_draw, ha]
      exact e'
end K83
namespace K83
open PySem L2 ND
theorem bag_ok (ns : List Int) (h : ns.length ≤ 63) : ∃ b, BagOk b 0 ∧ m__law_bag [.ext ns] [] = .ok (.ref 0) [b] := by
  refine ⟨.lst [.lst ((ns.map absI).map .int), .int 0, .int 0, .int 0, .int 0, .int 0], ⟨ns.map absI, 0, 0, 0, 0, 0, rfl, fun c hc => ?_, by decide, by decide, by decide, by decide, by decide⟩, ?_⟩
  · obtain ⟨x, _, rfl⟩ := List.mem_map.mp hc
    unfold absI
    split <;> omega
  · have e := comp_map (g := gNm 1) (me := eC (i1 fun i => .int (absI i)) (aCons (eC intD (aCons (eVar 1) aNil)) aNil)) (env := [some (.ext ns), none]) (st := []) (fun d => match d with
      | .int i => .int (absI i)
      | d => d) (all := ns.map .int) (fun d hd => by
        obtain ⟨x, _, rfl⟩ := List.mem_map.mp hd
        exact ⟨_, rfl, by simp⟩) (by rw [sizeLine_eq, List.length_map]; omega)
    have e2 : (ns.map D.int).map (fun d => match d with
      | .int i => .int (absI i)
      | d => d) = (ns.map absI).map D.int := by
      rw [List.map_map, List.map_map]
      rfl
    rw [e2] at e
    have hz : (6 : Nat) ≤ sizeLine := by rw [sizeLine_eq]; decide
    simp only [List.length_map] at e
    have f := finL_new (r := []) (xs := [.lst ((ns.map absI).map .int), .int 0, .int 0, .int 0, .int 0, .int 0]) (by
      show (pds ((ns.map absI).map D.int) && true) = true
      rw [pds_ints] <;> rfl)
    simp [m__law_bag, ND.fn, y__law_bag, e, hz]
    simpa using f
/-! ### texts -/
def spS (n : Nat) : Str := ⟨(List.replicate n 32).toArray⟩
theorem spS_len (n : Nat) : (spS n).length = n := by
  unfold spS Str.length
  simp
theorem flat_rep (n : Nat) : (List.replicate n [32]).flatten = List.replicate n 32 := by
  induction n with
  | zero => rfl
  | succ n ih => rw [List.replicate_succ, List.flatten_cons, ih, List.replicate_succ] <;> rfl
theorem rep_sp (n : Nat) : repS " " n = spS n := by
  have e : (" " : Str).cps.toList = [32] := by decide +kernel
  unfold repS spS
  rw [e, flat_rep]
theorem pad_l (w : Nat) (z : Str) : spS (w - z.length) ++ z = padL w z := by
  refine Str.ext' ?_
  rw [Str.cps_append]
  unfold spS padL
  apply Array.toList_inj.mp
  simp
theorem pad_r (w : Nat) (z : Str) : z ++ spS (w - z.length) = padR w z := by
  refine Str.ext' ?_
  rw [Str.cps_append]
  unfold spS padR
  apply Array.toList_inj.mp
  simp
theorem padL_len (w : Nat) (z : Str) : (padL w z).length = (w - z.length) + z.length := by
  rw [← pad_l, Str.length_append, spS_len]
theorem padR_len (w : Nat) (z : Str) : (padR w z).length = z.length + (w - z.length) := by
  rw [← pad_r, Str.length_append, spS_len]
theorem sp1_len : (" " : Str).length = 1 := by decide +kernel
theorem mul_sp {k : Int} (h1 : -1000000 ≤ k) (h2 : k ≤ 1000000) {st : Sto} : mulZ false (.str " ") (.int k) st = .ok (.str (spS k.toNat)) st := by
  show (if Ok (-(2 ^ 62) ≤ k ∧ k < 2 ^ 62 ∧ (" " : Str).length * k.toNat ≤ sizeLine) then Res.ok (D.str (repS " " k.toNat)) st else .bad) = _
  rw [if_pos (show Ok _ from (⟨by omega, by omega, by rw [sp1_len, sizeLine_eq]; omega⟩ : -(2 ^ 62) ≤ k ∧ k < 2 ^ 62 ∧ (" " : Str).length * k.toNat ≤ sizeLine)), rep_sp]
theorem add_s {a c : Str} {st : Sto} (h : a.length + c.length ≤ 16777216) : addS (.str a) (.str c) st = .ok (.str (a ++ c)) st := by
  show (if Ok (a.length + c.length ≤ sizeLine) then Res.ok (D.str (a ++ c)) st else .bad) = _
  rw [if_pos (show Ok _ from by show a.length + c.length ≤ sizeLine; rw [sizeLine_eq]; exact h)]
theorem len_s {a : Str} {st : Sto} (h : a.length ≤ 16777216) : lenD [.str a] st = .ok (.int a.length) st := by
  show (if Ok (a.length ≤ sizeLine) then Res.ok (D.int a.length) st else .bad) = _
  rw [if_pos (show Ok _ from by show a.length ≤ sizeLine; rw [sizeLine_eq]; exact h)]
def Sm (i : Int) : Prop := -1152921504606846976 < i ∧ i < 1152921504606846976
theorem Sm.log {i : Int} (h : Sm i) : i.natAbs.log2 < 1920 := by
  by_cases h0 : i.natAbs = 0
  · rw [h0]; decide
  · have h1 : i.natAbs < 2 ^ 60 := by have := h.1; have := h.2; omega
    have := (Nat.log2_lt h0).mpr h1
    omega
theorem strI_len {i : Int} (h : Sm i) : (strI i).length ≤ 20 := by
  have h1 : i.natAbs < 10 ^ 19 := by have := h.1; have := h.2; omega
  have h2 := PyProof.Rows.digits10_le (k := 19) (by decide) h1
  unfold strI
  cases i with
  | ofNat m => rw [PyProof.Rows.text_ofNat]; unfold Str.length; simpa using Nat.le_trans h2 (by decide)
  | negSucc m => rw [text_neg]; unfold Str.length; simpa using h2
theorem str_i {i : Int} (h : Sm i) {st : Sto} : strD [.int i] st = .ok (.str (strI i)) st := by
  show (if Ok (i.natAbs.log2 < 1920) then Res.ok (D.str (strI i)) st else .bad) = _
  rw [if_pos (show Ok _ from h.log)]
theorem padded_ok {z : Str} {w : Nat} (hz : z.length ≤ 1000) (hw : w ≤ 1000) {st : Sto} : m__law_padded [.str z, .int w] st = .ok (.str (padL w z)) st := by
  have e1 : (maxI 0 ((w : Int) - z.length)).toNat = w - z.length := by
    unfold maxI
    split <;> omega
  have e2 := mul_sp (k := maxI 0 ((w : Int) - z.length)) (by unfold maxI; split <;> omega) (by unfold maxI; split <;> omega) (st := st)
  rw [e1] at e2
  have e3 := add_s (a := spS (w - z.length)) (c := z) (st := st) (by rw [spS_len]; omega)
  rw [pad_l] at e3
  have e4 := len_s (a := z) (st := st) (by omega)
  show fnEnd false st (y__law_padded [some (.str z), some (.int w)] st) = _
  simp only [y__law_padded, ev_sSeq, ev_sNil, ev_sIf, ev_sSet, ev_sDrop, ev_sRet, ev_sRetN, ev_sSetIx, ev_sAug, ev_bAnd, ev_bOr, ev_bNot, ev_bYes, ev_tru, ev_toB, ev_e2, ev_eVar, ev_eK, ev_eC, ev_eC0, ev_aCons, ev_aNil, ev_eIf, ev_eAnd, ev_eOr, ev_eNot, ev_eSl, ev_oSome, ev_oNone, ev_eFld, ev_eMeth, ev_eBM, ev_iVal, ev_iR1, ev_iR2, ev_gNm, ev_mkL_f, ev_mkL_t, ev_wipe0, ev_wipe1, ev_eLst0, ev_eTup0, List.getElem?_cons_succ, List.getElem?_cons_zero, List.set_cons_succ, List.set_cons_zero, Res.bind_ok, toS_ok, seq_nx, seq_rt, seq_bk, seq_ct, tru_bl, Bool.not_true, Bool.not_false, Bool.false_eq_true, Bool.true_eq_false, if_true, if_false, ND.ix_tup, ix_lst, at_0, at_1, at_2, at_3, at_4, ND.len_tup, ND.len_lst, eq_int, eq_bl, op_addI, op_subI, op_ltI, op_leI, op_gtI, op_geI, op_addX_i, op_addX_s, op_addX_l, op_addX_t, op_mulX_i, op_mulX_l, op_isN_non, op_isN_tup, op_isN_lst, op_isN_ins, op_isB, sl_lst, int_int, int_bl, i1_int, i2f_int, src_tup, src_lst, negI, decide_true, decide_false, e4, e2, e3]
  exact fin_none0 (by rfl)
theorem padded6 {z : Str} (hz : z.length ≤ 1000) {st : Sto} : m__law_padded [.str z, .int 6] st = .ok (.str (padL 6 z)) st := padded_ok (w := 6) hz (by decide)
theorem padded3 {z : Str} (hz : z.length ≤ 1000) {st : Sto} : m__law_padded [.str z, .int 3] st = .ok (.str (padL 3 z)) st := padded_ok (w := 3) hz (by decide)
/-! ### boxes -/
abbrev Box := Str × Int × Int × Int × Int
def bxD (b : Box) : D := .tup [.str b.1, .int b.2.1, .int b.2.2.1, .int b.2.2.2.1, .int b.2.2.2.2]
structure BxOk (b : Box) : Prop where
  n : b.1.length ≤ 100
  x : Sm b.2.1
  y : Sm b.2.2.1
  w : Sm b.2.2.2.1
  h : Sm b.2.2.2.2
def rowS (b : Box) : Str := padR 6 b.1 ++ padL 6 (strI b.2.1) ++ padL 6 (strI b.2.2.1) ++ padL 6 (strI b.2.2.2.1) ++ padL 6 (strI b.2.2.2.2)
theorem rowS_len {b : Box} (h : BxOk b) : (rowS b).length ≤ 250 := by
  have := h.n; have := strI_len h.x; have := strI_len h.y; have := strI_len h.w; have := strI_len h.h
  unfold rowS
  rw [Str.length_append, Str.length_append, Str.length_append, Str.length_append, padR_len, padL_len, padL_len, padL_len, padL_len]
  omega
theorem row_ok {b : Box} (h : BxOk b) {st : Sto} : m__law_row [bxD b] st = .ok (.str (rowS b)) st := by
  obtain ⟨n, x, y, w, hh⟩ := b
  obtain ⟨h1, h2, h3, h4, h5⟩ := h
  dsimp only at h1 h2 h3 h4 h5
  have l2 := strI_len h2; have l3 := strI_len h3; have l4 := strI_len h4; have l5 := strI_len h5
  have e1 : (maxI 0 ((6 : Int) - n.length)).toNat = 6 - n.length := by
    unfold maxI
    split <;> omega
  have e2 := fun st => mul_sp (k := maxI 0 ((6 : Int) - n.length)) (by unfold maxI; split <;> omega) (by unfold maxI; split <;> omega) (st := st)
  rw [e1] at e2
  have e3 := fun st => add_s (a := n) (c := spS (6 - n.length)) (st := st) (by rw [spS_len]; omega)
  rw [pad_r] at e3
  have e4 := fun st => len_s (a := n) (st := st) (by omega)
  have p2 := fun st => padded6 (z := strI x) (st := st) (by omega)
  have p3 := fun st => padded6 (z := strI y) (st := st) (by omega)
  have p4 := fun st => padded6 (z := strI w) (st := st) (by omega)
  have p5 := fun st => padded6 (z := strI hh) (st := st) (by omega)
  have s2 := fun st => str_i h2 (st := st)
  have s3 := fun st => str_i h3 (st := st)
  have s4 := fun st => str_i h4 (st := st)
  have s5 := fun st => str_i h5 (st := st)
  have a2 := fun st => add_s (a := padR 6 n) (c := padL 6 (strI x)) (st := st) (by rw [padR_len, padL_len]; omega)
  have a3 := fun st => add_s (a := padR 6 n ++ padL 6 (strI x)) (c := padL 6 (strI y)) (st := st) (by rw [Str.length_append, padR_len, padL_len, padL_len]; omega)
  have a4 := fun st => add_s (a := padR 6 n ++ padL 6 (strI x) ++ padL 6 (strI y)) (c := padL 6 (strI w)) (st := st) (by rw [Str.length_append, Str.length_append, padR_len, padL_len, padL_len, padL_len]; omega)
  have a5 := fun st => add_s (a := padR 6 n ++ padL 6 (strI x) ++ padL 6 (strI y) ++ padL 6 (strI w)) (c := padL 6 (strI hh)) (st := st) (by rw [Str.length_append, Str.length_append, Str.length_append, padR_len, padL_len, padL_len, padL_len, padL_len]; omega)
  show fnEnd false st (y__law_row [some (.tup [.str n, .int x, .int y, .int w, .int hh]), none, none] st) = _
  have ec : cutD [D.str n, .int x, .int y, .int w, .int hh] (some 1) none = [.int x, .int y, .int w, .int hh] := rfl
  simp only [y__law_row, y__law_row_1, y__law_row_2, l1__law_row, ev_sFor, fz_rd, fz_n, loopR, slD, List.length_cons, List.length_nil, ev_sSeq, ev_sNil, ev_sIf, ev_sSet, ev_sDrop, ev_sRet, ev_sRetN, ev_sSetIx, ev_sAug, ev_bAnd, ev_bOr, ev_bNot, ev_bYes, ev_tru, ev_toB, ev_e2, ev_eVar, ev_eK, ev_eC, ev_eC0, ev_aCons, ev_aNil, ev_eIf, ev_eAnd, ev_eOr, ev_eNot, ev_eSl, ev_oSome, ev_oNone, ev_eFld, ev_eMeth, ev_eBM, ev_iVal, ev_iR1, ev_iR2, ev_gNm, ev_mkL_f, ev_mkL_t, ev_wipe0, ev_wipe1, ev_eLst0, ev_eTup0, List.getElem?_cons_succ, List.getElem?_cons_zero, List.set_cons_succ, List.set_cons_zero, Res.bind_ok, toS_ok, seq_nx, seq_rt, seq_bk, seq_ct, tru_bl, Bool.not_true, Bool.not_false, Bool.false_eq_true, Bool.true_eq_false, if_true, if_false, ND.ix_tup, ix_lst, at_0, at_1, at_2, at_3, at_4, ND.len_tup, ND.len_lst, eq_int, eq_bl, op_addI, op_subI, op_ltI, op_leI, op_gtI, op_geI, op_addX_i, op_addX_s, op_addX_l, op_addX_t, op_mulX_i, op_mulX_l, op_isN_non, op_isN_tup, op_isN_lst, op_isN_ins, op_isB, sl_lst, int_int, int_bl, i1_int, i2f_int, src_tup, src_lst, negI, decide_true, decide_false, e4, e2, e3, ec, p2, p3, p4, p5, s2, s3, s4, s5, a2, a3, a4, a5]
  exact fin_none0 (by rfl)
/-! ### rows, numbered -/
def numS (k : Nat) (z : Str) : Str := padL 3 (strI k) ++ ": " ++ z
theorem colon_len : (": " : Str).length = 2 := by decide +kernel
theorem numS_len {k : Nat} {z : Str} (hk : k < 100000) : (numS k z).length ≤ z.length + 30 := by
  have := strI_len (i := k) ⟨by omega, by omega⟩
  unfold numS
  rw [Str.length_append, Str.length_append, padL_len, colon_len]
  omega
def numL (zs : List Str) : List Str := (List.range zs.length).map fun k => numS k (zs.getD k Str.empty)
theorem rows_get {zs : List Str} {i : Nat} (h : i < zs.length) {st : Sto} : ixD (.lst (zs.map .str)) (.int (i : Int)) st = .ok (.str (zs.getD i Str.empty)) st := by
  rw [ix_lst, at_map h]
  simp [h]
theorem range_pure {n : Nat} (h : n ≤ 100000) {m : M D} {env : ND.Env} {st : Sto} (he : m env st = .ok (.int n) st) : iR1 m env st = .ok (.fz (rangeD 0 n)) st := by
  rw [ev_iR1, he]
  exact rng1_nat h
theorem map_range {α : Type} {f : D → α} {n : Nat} : (rangeD 0 n).map f = (List.range n).map fun i : Nat => f (.int i) := by
  unfold rangeD
  rw [List.map_map]
  refine List.map_congr_left fun i _ => ?_
  simp
theorem numbered_ok {zs : List Str} (hz : ∀ z ∈ zs, z.length ≤ 1000) (hl : zs.length ≤ 2000) {st : Sto} : m__law_numbered [.lst (zs.map .str)] st = .ok (.lst ((numL zs).map .str)) st := by
  show fnEnd false st (y__law_numbered [some (.lst (zs.map .str)), none] st) = _
  have e := eComp_pure (lv := false) (mi := iR1 (eC lenD (aCons (eVar 0) aNil))) (g := gNm 1) (t := bYes) (me := ND.e2 addX (ND.e2 addX (eC m__law_padded (aCons (eC strD (aCons (eVar 1) aNil)) (aCons (eK (.int 3)) aNil))) (eK (.str ": "))) (ND.e2 ixD (eVar 0) (eVar 1))) (vs := [1]) (env0 := [some (.lst (zs.map .str)), none]) (st := st) (s1 := st) (ds := rangeD 0 zs.length)
    (range_pure (n := zs.length) (by omega) (by simp only [ev_sSeq, ev_sNil, ev_sIf, ev_sSet, ev_sDrop, ev_sRet, ev_sRetN, ev_sSetIx, ev_sAug, ev_bAnd, ev_bOr, ev_bNot, ev_bYes, ev_tru, ev_toB, ev_e2, ev_eVar, ev_eK, ev_eC, ev_eC0, ev_aCons, ev_aNil, ev_eIf, ev_eAnd, ev_eOr, ev_eNot, ev_eSl, ev_oSome, ev_oNone, ev_eFld, ev_eMeth, ev_eBM, ev_iVal, ev_iR1, ev_iR2, ev_gNm, ev_mkL_f, ev_mkL_t, ev_wipe0, ev_wipe1, ev_eLst0, ev_eTup0, List.getElem?_cons_succ, List.getElem?_cons_zero, List.set_cons_succ, List.set_cons_zero, Res.bind_ok, toS_ok, seq_nx, seq_rt, seq_bk, seq_ct, tru_bl, Bool.not_true, Bool.not_false, Bool.false_eq_true, Bool.true_eq_false, if_true, if_false, ND.ix_tup, ix_lst, at_0, at_1, at_2, at_3, at_4, ND.len_tup, ND.len_lst, eq_int, eq_bl, op_addI, op_subI, op_ltI, op_leI, op_gtI, op_geI, op_addX_i, op_addX_s, op_addX_l, op_addX_t, op_mulX_i, op_mulX_l, op_isN_non, op_isN_tup, op_isN_lst, op_isN_ins, op_isB, sl_lst, int_int, int_bl, i1_int, i2f_int, src_tup, src_lst, negI, decide_true, decide_false, List.length_map])) (fun d => match d with
      | .int i => .str (numS i.toNat (zs.getD i.toNat Str.empty))
      | d => d) (fun _ => true) (by rw [range_len]; omega) (fun d hd => by
        obtain ⟨i, hi⟩ := List.getElem?_of_mem hd
        obtain ⟨rfl, hin⟩ := range_get hi
        rw [Int.zero_add]
        have sm : Sm (i : Int) := ⟨by omega, by omega⟩
        have l1 := strI_len sm
        have e1 := str_i sm (st := st)
        have e2 := padded3 (z := strI i) (st := st) (by omega)
        have e3 := add_s (a := padL 3 (strI i)) (c := ": ") (st := st) (by rw [padL_len, colon_len]; omega)
        have hzi : (zs.getD i Str.empty).length ≤ 1000 := by
          rw [List.getD_eq_getElem?_getD, List.getElem?_eq_getElem hin]
          exact hz _ (List.getElem_mem hin)
        have e4 := add_s (a := padL 3 (strI i) ++ ": ") (c := zs.getD i Str.empty) (st := st) (by rw [Str.length_append, padL_len, colon_len]; omega)
        have e5 := rows_get hin (st := st)
        refine ⟨_, rfl, rfl, fun _ => ?_⟩
        rw [ix_lst] at e5
        simp only [ev_sSeq, ev_sNil, ev_sIf, ev_sSet, ev_sDrop, ev_sRet, ev_sRetN, ev_sSetIx, ev_sAug, ev_bAnd, ev_bOr, ev_bNot, ev_bYes, ev_tru, ev_toB, ev_e2, ev_eVar, ev_eK, ev_eC, ev_eC0, ev_aCons, ev_aNil, ev_eIf, ev_eAnd, ev_eOr, ev_eNot, ev_eSl, ev_oSome, ev_oNone, ev_eFld, ev_eMeth, ev_eBM, ev_iVal, ev_iR1, ev_iR2, ev_gNm, ev_mkL_f, ev_mkL_t, ev_wipe0, ev_wipe1, ev_eLst0, ev_eTup0, List.getElem?_cons_succ, List.getElem?_cons_zero, List.set_cons_succ, List.set_cons_zero, Res.bind_ok, toS_ok, seq_nx, seq_rt, seq_bk, seq_ct, tru_bl, Bool.not_true, Bool.not_false, Bool.false_eq_true, Bool.true_eq_false, if_true, if_false, ND.ix_tup, ix_lst, at_0, at_1, at_2, at_3, at_4, ND.len_tup, ND.len_lst, eq_int, eq_bl, op_addI, op_subI, op_ltI, op_leI, op_gtI, op_geI, op_addX_i, op_addX_s, op_addX_l, op_addX_t, op_mulX_i, op_mulX_l, op_isN_non, op_isN_tup, op_isN_lst, op_isN_ins, op_isB, sl_lst, int_int, int_bl, i1_int, i2f_int, src_tup, src_lst, negI, decide_true, decide_false, e1, e2, e3, e4, e5]
        rfl)
  unfold y__law_numbered
  rw [ev_sRet, e, List.filter_eq_self.mpr (fun _ _ => rfl), map_range, ev_mkL_f, toS_ok, end_rt_f]
  have e2 : ((List.range zs.length).map fun i : Nat => (match (D.int i) with
      | .int i => D.str (numS i.toNat (zs.getD i.toNat Str.empty))
      | d => d)) = (numL zs).map .str := by
    unfold numL
    rw [List.map_map]
    rfl
  rw [e2]
  exact fin_none0 (pds_map (f := D.str) fun _ _ => rfl)
end K83
namespace K83
open PySem L2 ND
/-! ### what is due -/
def titS (n : Nat) : Str := "boxes: " ++ strI n
def bare (bs : List Box) : List Str := bs.map rowS
def titled (bs : List Box) : List Str := titS bs.length :: bare bs
theorem tit_len0 : ("boxes: " : Str).length = 7 := by decide +kernel
theorem titS_len {n : Nat} (h : n ≤ 100000) : (titS n).length ≤ 30 := by
  have := strI_len (i := n) ⟨by omega, by omega⟩
  unfold titS
  rw [Str.length_append, tit_len0]
  omega
abbrev stL (zs : List Str) : List D := zs.map .str
structure BsOk (bs : List Box) : Prop where
  ok : ∀ b ∈ bs, BxOk b
  len : bs.length ≤ 1200
theorem bare_len {bs : List Box} (h : BsOk bs) : ∀ z ∈ bare bs, z.length ≤ 1000 := fun z hz => by
  obtain ⟨b, hb, rfl⟩ := List.mem_map.mp hz
  have := rowS_len (h.ok b hb)
  omega
theorem titled_len {bs : List Box} (h : BsOk bs) : ∀ z ∈ titled bs, z.length ≤ 1000 := fun z hz => by
  rcases List.mem_cons.mp hz with rfl | hz
  · have := titS_len (n := bs.length) (by have := h.len; omega)
    omega
  · exact bare_len h z hz
theorem rows_map {bs : List Box} (h : BsOk bs) {env : ND.Env} {st : Sto} (he : (wipeD env [3])[0]? = some (some (.lst (bs.map bxD)))) (hi : iVal (eVar 0) env st = .ok (.fz (bs.map bxD)) st) (h3 : 3 < env.length) :
    eComp false (iVal (eVar 0)) (gNm 3) bYes (eC m__law_row (aCons (eVar 3) aNil)) [3] env st = .ok (.lst (stL (bare bs))) st := by
  rw [eComp_pure (lv := false) hi (fun d => match d with
      | .tup [.str n, .int x, .int y, .int w, .int h] => .str (rowS (n, x, y, w, h))
      | d => d) (fun _ => true) (by rw [List.length_map]; have := h.len; omega) (fun d hd => by
        obtain ⟨b, hb, rfl⟩ := List.mem_map.mp hd
        refine ⟨_, rfl, rfl, fun _ => ?_⟩
        have e := row_ok (h.ok b hb) (st := st)
        have hv : ((wipeD env [3]).set 3 (some (bxD b)))[3]? = some (some (bxD b)) := List.getElem?_set_self (by rw [ev_wipe1, ev_wipe0, List.length_set]; exact h3)
        rw [ev_eC, ev_aCons, ev_eVar, hv]
        simp only [Res.bind_ok, ev_aNil]
        exact e)]
  rw [List.filter_eq_self.mpr (fun _ _ => rfl), List.map_map, ev_mkL_f]
  unfold bare stL
  rw [List.map_map]
  rfl
theorem due_ok {bs : List Box} (h : BsOk bs) {st : Sto} : m__law_due [.lst (bs.map bxD)] st = .ok (.lst [.lst (stL (bare bs)), .lst (stL (numL (bare bs))), .lst (stL (titled bs)), .lst (stL (numL (titled bs)))]) st := by
  have hl := h.len
  show fnEnd false st (y__law_due [some (.lst (bs.map bxD)), none, none, none] st) = _
  have e1 := rows_map h (env := [some (.lst (bs.map bxD)), none, none, none]) (st := st) rfl rfl (by simp)
  have e2 := numbered_ok (zs := bare bs) (st := st) (bare_len h) (by unfold bare; rw [List.length_map]; omega)
  have e3 := numbered_ok (zs := titled bs) (st := st) (titled_len h) (by unfold titled bare; rw [List.length_cons, List.length_map]; omega)
  have sm : Sm (bs.length : Int) := ⟨by omega, by omega⟩
  have e4 := str_i sm (st := st)
  have l4 := strI_len sm
  have e5 := add_s (a := "boxes: ") (c := strI bs.length) (st := st) (by rw [tit_len0]; omega)
  have e6 : addL (.lst [.str ("boxes: " ++ strI bs.length)]) (.lst (stL (bare bs))) st = .ok (.lst (stL (titled bs))) st := by
    show (if Ok ([D.str ("boxes: " ++ strI bs.length)].length + (stL (bare bs)).length ≤ sizeLine) then Res.ok (D.lst ([D.str ("boxes: " ++ strI bs.length)] ++ stL (bare bs))) st else .bad) = _
    rw [if_pos (show Ok _ from by show [D.str ("boxes: " ++ strI bs.length)].length + (stL (bare bs)).length ≤ sizeLine; rw [sizeLine_eq]; unfold stL bare; simp only [List.length_map, List.length_cons, List.length_nil]; omega)]
    rfl
  simp only [y__law_due, y__law_due_1, y__law_due_2, ev_sSeq, ev_sNil, ev_sIf, ev_sSet, ev_sDrop, ev_sRet, ev_sRetN, ev_sSetIx, ev_sAug, ev_bAnd, ev_bOr, ev_bNot, ev_bYes, ev_tru, ev_toB, ev_e2, ev_eVar, ev_eK, ev_eC, ev_eC0, ev_aCons, ev_aNil, ev_eIf, ev_eAnd, ev_eOr, ev_eNot, ev_eSl, ev_oSome, ev_oNone, ev_eFld, ev_eMeth, ev_eBM, ev_iVal, ev_iR1, ev_iR2, ev_gNm, ev_mkL_f, ev_mkL_t, ev_wipe0, ev_wipe1, ev_eLst0, ev_eTup0, List.getElem?_cons_succ, List.getElem?_cons_zero, List.set_cons_succ, List.set_cons_zero, Res.bind_ok, toS_ok, seq_nx, seq_rt, seq_bk, seq_ct, tru_bl, Bool.not_true, Bool.not_false, Bool.false_eq_true, Bool.true_eq_false, if_true, if_false, ND.ix_tup, ix_lst, at_0, at_1, at_2, at_3, at_4, ND.len_tup, ND.len_lst, eq_int, eq_bl, op_addI, op_subI, op_ltI, op_leI, op_gtI, op_geI, op_addX_i, op_addX_s, op_addX_l, op_addX_t, op_mulX_i, op_mulX_l, op_isN_non, op_isN_tup, op_isN_lst, op_isN_ins, op_isB, sl_lst, int_int, int_bl, i1_int, i2f_int, src_tup, src_lst, negI, decide_true, decide_false, e1, List.length_map, e4, e5, e6, e2, e3, ev_eLst, List.length_cons, List.length_nil, ok_szl, Nat.zero_add, Nat.reduceAdd, Nat.reduceLeDiff, end_rt_f]
  refine fin_none0 ?_
  show (pds (stL (bare bs)) && (pds (stL (numL (bare bs))) && (pds (stL (titled bs)) && (pds (stL (numL (titled bs))) && true)))) = true
  rw [pds_map (f := D.str) (fun _ _ => rfl), pds_map (f := D.str) (fun _ _ => rfl), pds_map (f := D.str) (fun _ _ => rfl), pds_map (f := D.str) (fun _ _ => rfl)]
  rfl
/-! ### the listings -/
def inL (k : String) (bs : List Box) : D := .ins k ["_listed"] [.tup (bs.map bxD)]
def Kls (k : String) : Prop := k = "Listing" ∨ k = "NumberedListing" ∨ k = "TitledListing" ∨ k = "FullListing"
theorem Kls.ft {k : String} (h : Kls k) : (k, "_listed") ∈ ftL := by
  rcases h with rfl | rfl | rfl | rfl <;> decide
theorem pds_bx (bs : List Box) : pds (bs.map bxD) = true := pds_map fun _ _ => rfl
theorem mk_ok {k : String} (hk : Kls k) {x : D} {bs : List Box} {st : Sto} (hx : ∀ o, tupD [x] (st ++ [o]) = .ok (.tup (bs.map bxD)) (st ++ [o])) : mkI k m_Listinguu_inituu false [x] st = .ok (inL k bs) st := by
  have e1 : y_Listinguu_inituu [some (.ref st.length), some x] (st ++ [.ins k [] []]) = .nx [some (.ref st.length), some x] (st ++ [.ins k ["_listed"] [.tup (bs.map bxD)]]) := by
    unfold y_Listinguu_inituu
    rw [ev_sFldD]
    simp only [ev_sSeq, ev_sNil, ev_sIf, ev_sSet, ev_sDrop, ev_sRet, ev_sRetN, ev_sSetIx, ev_sAug, ev_bAnd, ev_bOr, ev_bNot, ev_bYes, ev_tru, ev_toB, ev_e2, ev_eVar, ev_eK, ev_eC, ev_eC0, ev_aCons, ev_aNil, ev_eIf, ev_eAnd, ev_eOr, ev_eNot, ev_eSl, ev_oSome, ev_oNone, ev_eFld, ev_eMeth, ev_eBM, ev_iVal, ev_iR1, ev_iR2, ev_gNm, ev_mkL_f, ev_mkL_t, ev_wipe0, ev_wipe1, ev_eLst0, ev_eTup0, List.getElem?_cons_succ, List.getElem?_cons_zero, List.set_cons_succ, List.set_cons_zero, Res.bind_ok, toS_ok, seq_nx, seq_rt, seq_bk, seq_ct, tru_bl, Bool.not_true, Bool.not_false, Bool.false_eq_true, Bool.true_eq_false, if_true, if_false, ND.ix_tup, ix_lst, at_0, at_1, at_2, at_3, at_4, ND.len_tup, ND.len_lst, eq_int, eq_bl, op_addI, op_subI, op_ltI, op_leI, op_gtI, op_geI, op_addX_i, op_addX_s, op_addX_l, op_addX_t, op_mulX_i, op_mulX_l, op_isN_non, op_isN_tup, op_isN_lst, op_isN_ins, op_isB, sl_lst, int_int, int_bl, i1_int, i2f_int, src_tup, src_lst, negI, decide_true, decide_false, hx, get_last]
    rw [if_pos (show Ok _ from (⟨hk.ft, by decide⟩ : (k, "_listed") ∈ ftL ∧ ([] : List String).length < 1000)), set_last]
    rfl
  have e2 : m_Listinguu_inituu (.ref st.length :: [x]) (st ++ [.ins k [] []]) = .ok .non (st ++ [.ins k ["_listed"] [.tup (bs.map bxD)]]) := by
    show fnEnd false _ (y_Listinguu_inituu [some (.ref st.length), some x] (st ++ [.ins k [] []])) = _
    rw [e1, end_nx]
    exact fin_obj (by show (pds (bs.map bxD) && true) = true; rw [pds_bx]; rfl)
  unfold mkI
  rw [e2]
  exact fin_ins (by show (pds (bs.map bxD) && true) = true; rw [pds_bx]; rfl)
theorem js_cons {m : M D} {ms : List (M D)} {acc y : Str} {env : ND.Env} {st : Sto} (h : m env st = .ok (.str y) st) (hz : (acc ++ y).length ≤ 16777216) : jsD (m :: ms) acc env st = jsD ms (acc ++ y) env st := by
  show (m env st).bind _ = _
  rw [h]
  show (if Ok ((acc ++ y).length ≤ sizeLine) then jsD ms (acc ++ y) env st else .bad) = _
  rw [if_pos (show Ok _ from by show (acc ++ y).length ≤ sizeLine; rw [sizeLine_eq]; exact hz)]
theorem js_nil {acc : Str} {env : ND.Env} {st : Sto} : jsD [] acc env st = .ok (.str acc) st := rfl
theorem fmtR_ok {W i : Nat} {v : Int} {env : ND.Env} {st : Sto} (h : env[i]? = some (some (.int v))) (hv : Sm v) : eFmtR W (eVar i) env st = .ok (.str (padL W (strI v))) st := by
  unfold eFmtR
  rw [ev_eVar, h]
  show (if Ok (v.natAbs.log2 < 1920) then Res.ok (D.str (padL W (strI v))) st else .bad) = _
  rw [if_pos (show Ok _ from hv.log)]
theorem fmtL_ok {W i : Nat} {z : Str} {env : ND.Env} {st : Sto} (h : env[i]? = some (some (.str z))) (hz : z.length ≤ 16777216) : eFmtL W (eVar i) env st = .ok (.str (padR W z)) st := by
  unfold eFmtL
  rw [ev_eVar, h]
  show (if Ok (z.length ≤ sizeLine) then Res.ok (D.str (padR W z)) st else .bad) = _
  rw [if_pos (show Ok _ from by show z.length ≤ sizeLine; rw [sizeLine_eq]; exact hz)]
theorem fmtS_ok {m : M D} {z : Str} {env : ND.Env} {st : Sto} (h : m env st = .ok (.str z) st) (hz : z.length ≤ 16777216) : eFmt m env st = .ok (.str z) st := by
  unfold eFmt
  rw [h]
  show (if Ok (z.length ≤ sizeLine) then Res.ok (D.str z) st else .bad) = _
  rw [if_pos (show Ok _ from by show z.length ≤ sizeLine; rw [sizeLine_eq]; exact hz)]
theorem fmtI_ok {m : M D} {v : Int} {env : ND.Env} {st : Sto} (h : m env st = .ok (.int v) st) (hv : Sm v) : eFmt m env st = .ok (.str (strI v)) st := by
  unfold eFmt
  rw [h]
  show (if Ok (v.natAbs.log2 < 1920) then Res.ok (D.str (strI v)) st else .bad) = _
  rw [if_pos (show Ok _ from hv.log)]
noncomputable abbrev cmpL (lv : Bool) : M D := eComp lv (iVal (eFld ftL "_listed" (eVar 0))) (gTu 5 (gsCons (gNm 1) (gsCons (gNm 2) (gsCons (gNm 3) (gsCons (gNm 4) (gsCons (gNm 5) (gsNil))))))) bYes (eJs [eFmtL 6 (eVar 1), eFmtR 6 (eVar 2), eFmtR 6 (eVar 3), eFmtR 6 (eVar 4), eFmtR 6 (eVar 5)]) [1, 2, 3, 4, 5]
theorem cmpL_ok {k : String} (hk : Kls k) {bs : List Box} (h : BsOk bs) {lv : Bool} {st : Sto} : cmpL lv [some (inL k bs), none, none, none, none, none] st = mkL lv (stL (bare bs)) st := by
  unfold cmpL
  rw [eComp_pure (lv := lv) (ds := bs.map bxD) (s1 := st) (by
      rw [ev_iVal, ev_eFld]
      unfold inL
      simp only [ev_sSeq, ev_sNil, ev_sIf, ev_sSet, ev_sDrop, ev_sRet, ev_sRetN, ev_sSetIx, ev_sAug, ev_bAnd, ev_bOr, ev_bNot, ev_bYes, ev_tru, ev_toB, ev_e2, ev_eVar, ev_eK, ev_eC, ev_eC0, ev_aCons, ev_aNil, ev_eIf, ev_eAnd, ev_eOr, ev_eNot, ev_eSl, ev_oSome, ev_oNone, ev_eFld, ev_eMeth, ev_eBM, ev_iVal, ev_iR1, ev_iR2, ev_gNm, ev_mkL_f, ev_mkL_t, ev_wipe0, ev_wipe1, ev_eLst0, ev_eTup0, List.getElem?_cons_succ, List.getElem?_cons_zero, List.set_cons_succ, List.set_cons_zero, Res.bind_ok, toS_ok, seq_nx, seq_rt, seq_bk, seq_ct, tru_bl, Bool.not_true, Bool.not_false, Bool.false_eq_true, Bool.true_eq_false, if_true, if_false, ND.ix_tup, ix_lst, at_0, at_1, at_2, at_3, at_4, ND.len_tup, ND.len_lst, eq_int, eq_bl, op_addI, op_subI, op_ltI, op_leI, op_gtI, op_geI, op_addX_i, op_addX_s, op_addX_l, op_addX_t, op_mulX_i, op_mulX_l, op_isN_non, op_isN_tup, op_isN_lst, op_isN_ins, op_isB, sl_lst, int_int, int_bl, i1_int, i2f_int, src_tup, src_lst, negI, decide_true, decide_false, ins_ins]
      rw [if_pos hk.ft]
      rfl) (fun d => match d with
      | .tup [.str n, .int x, .int y, .int w, .int h] => .str (rowS (n, x, y, w, h))
      | d => d) (fun _ => true) (by rw [List.length_map]; have := h.len; omega) (fun d hd => by
        obtain ⟨b, hb, rfl⟩ := List.mem_map.mp hd
        have hbb := h.ok b hb
        obtain ⟨n, x, y, w, hh⟩ := b
        obtain ⟨h1, h2, h3, h4, h5⟩ := hbb
        dsimp only at h1 h2 h3 h4 h5
        have l2 := strI_len h2; have l3 := strI_len h3; have l4 := strI_len h4; have l5 := strI_len h5
        refine ⟨[some (inL k bs), some (.str n), some (.int x), some (.int y), some (.int w), some (.int hh)], rfl, rfl, fun _ => ?_⟩
        unfold eJs
        rw [js_cons (fmtL_ok (z := n) rfl (by omega)) (by rw [Str.empty_append, padR_len]; omega), Str.empty_append]
        rw [js_cons (fmtR_ok (v := x) rfl h2) (by rw [Str.length_append, padR_len, padL_len]; omega)]
        rw [js_cons (fmtR_ok (v := y) rfl h3) (by rw [Str.length_append, Str.length_append, padR_len, padL_len, padL_len]; omega)]
        rw [js_cons (fmtR_ok (v := w) rfl h4) (by rw [Str.length_append, Str.length_append, Str.length_append, padR_len, padL_len, padL_len, padL_len]; omega)]
        rw [js_cons (fmtR_ok (v := hh) rfl h5) (by rw [Str.length_append, Str.length_append, Str.length_append, Str.length_append, padR_len, padL_len, padL_len, padL_len, padL_len]; omega)]
        rfl)]
  rw [List.filter_eq_self.mpr (fun _ _ => rfl), List.map_map]
  unfold bare stL
  rw [List.map_map]
  rfl
theorem listF {k : String} (hk : Kls k) {bs : List Box} (h : BsOk bs) {st : Sto} : m_Listing_rows [inL k bs] st = .ok (.lst (stL (bare bs))) st := by
  show fnEnd false st ((cmpL false [some (inL k bs), none, none, none, none, none] st).toS _ fun d s1 => .rt d s1) = _
  rw [cmpL_ok hk h, ev_mkL_f, toS_ok, end_rt_f]
  exact fin_none0 (pds_map (f := D.str) fun _ _ => rfl)
theorem listL {k : String} (hk : Kls k) {bs : List Box} (h : BsOk bs) {st : Sto} : mL_Listing_rows [inL k bs] st = .ok (.ref st.length) (st ++ [.lst (stL (bare bs))]) := by
  show fnEnd true st ((cmpL true [some (inL k bs), none, none, none, none, none] st).toS _ fun d s1 => .rt d s1) = _
  rw [cmpL_ok hk h, ev_mkL_t, toS_ok, end_rt_t]
  exact finL_new (pds_map (f := D.str) fun _ _ => rfl)
noncomputable abbrev cmpN (lv : Bool) : M D := eComp lv (iEnumD (eVar 0)) (gTu 2 (gsCons (gNm 1) (gsCons (gNm 2) (gsNil)))) bYes (eJs [eFmtR 3 (eVar 1), eK (.str ": "), eFmt (eVar 2)]) [1, 2]
theorem cmpN_ok {zs : List Str} (hz : ∀ z ∈ zs, z.length ≤ 1000) (hl : zs.length ≤ 2000) {lv : Bool} {st : Sto} : cmpN lv [some (.lst (stL zs)), none, none] st = mkL lv (stL (numL zs)) st := by
  unfold cmpN
  rw [eComp_pure (lv := lv) (ds := enumD 0 (stL zs)) (s1 := st) rfl (fun d => match d with
      | .tup [.int i, .str z] => .str (numS i.toNat z)
      | d => d) (fun _ => true) (by rw [enumD_len, List.length_map]; omega) (fun d hd => by
        obtain ⟨i, hi⟩ := List.getElem?_of_mem hd
        obtain ⟨x, hx, rfl⟩ := enum_get hi
        obtain ⟨z, hzz, rfl, hin⟩ := get_map hx
        have hz1 := hz z (List.mem_of_getElem? hzz)
        have sm : Sm (i : Int) := ⟨by omega, by omega⟩
        have l1 := strI_len sm
        refine ⟨[some (.lst (stL zs)), some (.int i), some (.str z)], rfl, rfl, fun _ => ?_⟩
        unfold eJs
        rw [js_cons (fmtR_ok (v := i) rfl sm) (by rw [Str.empty_append, padL_len]; omega), Str.empty_append]
        rw [js_cons (m := eK (.str ": ")) rfl (by rw [Str.length_append, padL_len, colon_len]; omega)]
        rw [js_cons (fmtS_ok (z := z) rfl (by omega)) (by rw [Str.length_append, Str.length_append, padL_len, colon_len]; omega)]
        rfl)]
  rw [List.filter_eq_self.mpr (fun _ _ => rfl)]
  congr 1
  refine List.ext_getElem? fun i => ?_
  rw [List.getElem?_map, enumD_at]
  unfold stL numL
  rw [List.getElem?_map, List.getElem?_map, List.getElem?_map]
  by_cases hi : i < zs.length
  · rw [List.getElem?_range hi, List.getElem?_eq_getElem hi]
    simp [hi]
  · rw [List.getElem?_eq_none (by simpa using hi), List.getElem?_eq_none (by simpa using hi)]
    rfl
theorem numF {zs : List Str} (hz : ∀ z ∈ zs, z.length ≤ 1000) (hl : zs.length ≤ 2000) {st : Sto} : m__numbered [.lst (stL zs)] st = .ok (.lst (stL (numL zs))) st := by
  show fnEnd false st ((cmpN false [some (.lst (stL zs)), none, none] st).toS _ fun d s1 => .rt d s1) = _
  rw [cmpN_ok hz hl, ev_mkL_f, toS_ok, end_rt_f]
  exact fin_none0 (pds_map (f := D.str) fun _ _ => rfl)
theorem numLv {zs : List Str} (hz : ∀ z ∈ zs, z.length ≤ 1000) (hl : zs.length ≤ 2000) {st : Sto} : mL__numbered [.lst (stL zs)] st = .ok (.ref st.length) (st ++ [.lst (stL (numL zs))]) := by
  show fnEnd true st ((cmpN true [some (.lst (stL zs)), none, none] st).toS _ fun d s1 => .rt d s1) = _
  rw [cmpN_ok hz hl, ev_mkL_t, toS_ok, end_rt_t]
  exact finL_new (pds_map (f := D.str) fun _ _ => rfl)
theorem sup_ok {mt : MT} {k m : String} {bs : List Box} {F : DF} {o : List (Option D)} {st : Sto} (h : mfind mt k m = some F) : eSup mt m (some (inL k bs) :: o) st = F [inL k bs] st := by
  unfold eSup inL
  simp only [List.getElem?_cons_zero, ins_ins, h]
noncomputable abbrev titE (lv : Bool) : M D := eLst lv (aCons (eJs [eK (.str "boxes: "), eFmt (eC lenD (aCons (eFld ftL "_listed" (eVar 0)) (aNil)))]) (aStar (eSup [("TitledListing", "rows", m_Listing_rows), ("FullListing", "rows", m_Listing_rows)] "rows") aNil))
theorem titE_ok {k : String} (hk : k = "TitledListing" ∨ k = "FullListing") {bs : List Box} (h : BsOk bs) {lv : Bool} {st : Sto} : titE lv [some (inL k bs), none] st = mkL lv (stL (titled bs)) st := by
  have hK : Kls k := by rcases hk with rfl | rfl <;> simp [Kls]
  have hl := h.len
  have sm : Sm (bs.length : Int) := ⟨by omega, by omega⟩
  have l1 := strI_len sm
  have e1 : (eC lenD (aCons (eFld ftL "_listed" (eVar 0)) aNil)) [some (inL k bs), none] st = .ok (.int bs.length) st := by
    rw [ev_eC, ev_aCons, ev_eFld]
    unfold inL
    simp only [ev_sSeq, ev_sNil, ev_sIf, ev_sSet, ev_sDrop, ev_sRet, ev_sRetN, ev_sSetIx, ev_sAug, ev_bAnd, ev_bOr, ev_bNot, ev_bYes, ev_tru, ev_toB, ev_e2, ev_eVar, ev_eK, ev_eC, ev_eC0, ev_aCons, ev_aNil, ev_eIf, ev_eAnd, ev_eOr, ev_eNot, ev_eSl, ev_oSome, ev_oNone, ev_eFld, ev_eMeth, ev_eBM, ev_iVal, ev_iR1, ev_iR2, ev_gNm, ev_mkL_f, ev_mkL_t, ev_wipe0, ev_wipe1, ev_eLst0, ev_eTup0, List.getElem?_cons_succ, List.getElem?_cons_zero, List.set_cons_succ, List.set_cons_zero, Res.bind_ok, toS_ok, seq_nx, seq_rt, seq_bk, seq_ct, tru_bl, Bool.not_true, Bool.not_false, Bool.false_eq_true, Bool.true_eq_false, if_true, if_false, ND.ix_tup, ix_lst, at_0, at_1, at_2, at_3, at_4, ND.len_tup, ND.len_lst, eq_int, eq_bl, op_addI, op_subI, op_ltI, op_leI, op_gtI, op_geI, op_addX_i, op_addX_s, op_addX_l, op_addX_t, op_mulX_i, op_mulX_l, op_isN_non, op_isN_tup, op_isN_lst, op_isN_ins, op_isB, sl_lst, int_int, int_bl, i1_int, i2f_int, src_tup, src_lst, negI, decide_true, decide_false, ins_ins]
    rw [if_pos hK.ft]
    simp only [fget, if_true, Res.bind_ok, ND.len_tup, List.length_map]
  have e2 : eJs [eK (.str "boxes: "), eFmt (eC lenD (aCons (eFld ftL "_listed" (eVar 0)) (aNil)))] [some (inL k bs), none] st = .ok (.str (titS bs.length)) st := by
    unfold eJs
    rw [js_cons (m := eK (.str "boxes: ")) rfl (by rw [Str.empty_append, tit_len0]; decide), Str.empty_append]
    rw [js_cons (fmtI_ok e1 sm) (by rw [Str.length_append, tit_len0]; omega)]
    rfl
  have e3 : eSup [("TitledListing", "rows", m_Listing_rows), ("FullListing", "rows", m_Listing_rows)] "rows" [some (inL k bs), none] st = .ok (.lst (stL (bare bs))) st := by
    rw [sup_ok (F := m_Listing_rows) (by rcases hk with rfl | rfl <;> rfl)]
    exact listF hK h
  unfold titE
  rw [ev_eLst, ev_aCons, e2]
  unfold aStar
  simp only [Res.bind_ok, e3, sx_lst, ev_aNil, List.append_nil]
  rw [if_pos (show Ok _ from by show (D.str (titS bs.length) :: stL (bare bs)).length ≤ sizeLine; rw [sizeLine_eq]; unfold stL bare; simp only [List.length_cons, List.length_map]; omega)]
  rfl
theorem titF {k : String} (hk : k = "TitledListing" ∨ k = "FullListing") {bs : List Box} (h : BsOk bs) {st : Sto} : m_TitledListing_rows [inL k bs] st = .ok (.lst (stL (titled bs))) st := by
  show fnEnd false st ((titE false [some (inL k bs), none] st).toS _ fun d s1 => .rt d s1) = _
  rw [titE_ok hk h, ev_mkL_f, toS_ok, end_rt_f]
  exact fin_none0 (pds_map (f := D.str) fun _ _ => rfl)
theorem titL {bs : List Box} (h : BsOk bs) {st : Sto} : mL_TitledListing_rows [inL "TitledListing" bs] st = .ok (.ref st.length) (st ++ [.lst (stL (titled bs))]) := by
  show fnEnd true st ((titE true [some (inL "TitledListing" bs), none] st).toS _ fun d s1 => .rt d s1) = _
  rw [titE_ok (.inl rfl) h, ev_mkL_t, toS_ok, end_rt_t]
  exact finL_new (pds_map (f := D.str) fun _ _ => rfl)
theorem bare_l {bs : List Box} (h : BsOk bs) : (bare bs).length ≤ 2000 := by
  have := h.len
  unfold bare
  rw [List.length_map]
  omega
theorem tit_l {bs : List Box} (h : BsOk bs) : (titled bs).length ≤ 2000 := by
  have := h.len
  unfold titled bare
  rw [List.length_cons, List.length_map]
  omega
theorem nlL {bs : List Box} (h : BsOk bs) {st : Sto} : mL_NumberedListing_rows [inL "NumberedListing" bs] st = .ok (.ref st.length) (st ++ [.lst (stL (numL (bare bs)))]) := by
  show fnEnd true st ((eC mL__numbered (aCons (eSup [("NumberedListing", "rows", m_Listing_rows), ("FullListing", "rows", m_TitledListing_rows)] "rows") aNil) [some (inL "NumberedListing" bs), none] st).toS _ fun d s1 => .rt d s1) = _
  rw [ev_eC, ev_aCons, sup_ok (F := m_Listing_rows) rfl, listF (.inr (.inl rfl)) h]
  simp only [Res.bind_ok, ev_aNil]
  rw [numLv (bare_len h) (bare_l h), toS_ok, end_rt_t]
  exact finL_new (pds_map (f := D.str) fun _ _ => rfl)
theorem nfL {bs : List Box} (h : BsOk bs) {st : Sto} : mL_NumberedListing_rows [inL "FullListing" bs] st = .ok (.ref st.length) (st ++ [.lst (stL (numL (titled bs)))]) := by
  show fnEnd true st ((eC mL__numbered (aCons (eSup [("NumberedListing", "rows", m_Listing_rows), ("FullListing", "rows", m_TitledListing_rows)] "rows") aNil) [some (inL "FullListing" bs), none] st).toS _ fun d s1 => .rt d s1) = _
  rw [ev_eC, ev_aCons, sup_ok (F := m_TitledListing_rows) rfl, titF (.inr rfl) h]
  simp only [Res.bind_ok, ev_aNil]
  rw [numLv (titled_len h) (tit_l h), toS_ok, end_rt_t]
  exact finL_new (pds_map (f := D.str) fun _ _ => rfl)
theorem fullL {bs : List Box} (h : BsOk bs) {st : Sto} : mL_FullListing_rows [inL "FullListing" bs] st = .ok (.ref st.length) (st ++ [.lst (stL (numL (titled bs)))]) := by
  show fnEnd true st ((eSup [("FullListing", "rows", mL_NumberedListing_rows)] "rows" [some (inL "FullListing" bs), none] st).toS _ fun d s1 => .rt d s1) = _
  rw [sup_ok (F := mL_NumberedListing_rows) rfl, nfL h, toS_ok, end_rt_t]
  exact finL_new (pds_map (f := D.str) fun _ _ => rfl)
end K83
namespace K83
open PySem L2 ND
/-! ### what the law asks of the told lists -/
theorem isi_l {st : Sto} {n : Nat} {xs : List D} (h : st[n]? = some (.lst xs)) : isiD csL itL [.ref n, .ty "list"] st = .ok (.bl true) st := by
  have e : tyD st (.ref n) = some (false, "list") := by
    unfold tyD
    simp only [h]
  show (match tyD st (.ref n), clD (.ty "list") with
    | some t, some u => if t.1 = true → t.2 ∈ csL then (match ifind itL t u with
      | some b => Res.ok (D.bl b) st
      | none => .bad) else .bad
    | _, _ => .bad) = _
  rw [e]
  rfl
theorem isi_str {z : Str} {st : Sto} : isiD csL itL [.str z, .ty "str"] st = .ok (.bl true) st := rfl
theorem len_r {st : Sto} {n : Nat} {xs : List D} (h : st[n]? = some (.lst xs)) : lenD [.ref n] st = .ok (.int xs.length) st := by
  rw [ND.len_ref, h]
theorem ix_r {st : Sto} {n : Nat} {zs : List Str} (h : st[n]? = some (.lst (stL zs))) {i : Nat} (hi : i < zs.length) : ixD (.ref n) (.int (i : Int)) st = .ok (.str zs[i]) st := by
  rw [ND.ix_ref, h]
  show (match atI (zs.map D.str) (i : Int) with
    | some d => Res.ok d st
    | none => .bad) = _
  rw [at_map hi]
theorem ix_l {st : Sto} {zs : List Str} {i : Nat} (hi : i < zs.length) : ixD (.lst (stL zs)) (.int (i : Int)) st = .ok (.str zs[i]) st := by
  rw [ix_lst, at_map hi]
theorem told_ok {st : Sto} {n : Nat} {zs : List Str} (h : st[n]? = some (.lst (stL zs))) (hl : zs.length ≤ 2000) : m__law_told [.ref n, .lst (stL zs)] st = .ok (.bl true) st := by
  show fnEnd false st (y__law_told [some (.ref n), some (.lst (stL zs)), none] st) = _
  have e1 := isi_l h
  have e2 := len_r h
  obtain ⟨e, s, ef, q1, q2⟩ := for_allF (mi := iR1 (eC lenD (aCons (eVar 1) aNil))) (g := gNm 2) (body := l1__law_told) (env := [some (.ref n), some (.lst (stL zs)), none]) (st := st) (s1 := st) (ds := rangeD 0 zs.length)
    (range_pure (n := zs.length) (by omega) (by simp only [ev_sSeq, ev_sNil, ev_sIf, ev_sSet, ev_sDrop, ev_sRet, ev_sRetN, ev_sSetIx, ev_sAug, ev_bAnd, ev_bOr, ev_bNot, ev_bYes, ev_tru, ev_toB, ev_e2, ev_eVar, ev_eK, ev_eC, ev_eC0, ev_aCons, ev_aNil, ev_eIf, ev_eAnd, ev_eOr, ev_eNot, ev_eSl, ev_oSome, ev_oNone, ev_eFld, ev_eMeth, ev_eBM, ev_iVal, ev_iR1, ev_iR2, ev_gNm, ev_mkL_f, ev_mkL_t, ev_wipe0, ev_wipe1, ev_eLst0, ev_eTup0, List.getElem?_cons_succ, List.getElem?_cons_zero, List.set_cons_succ, List.set_cons_zero, Res.bind_ok, toS_ok, seq_nx, seq_rt, seq_bk, seq_ct, tru_bl, Bool.not_true, Bool.not_false, Bool.false_eq_true, Bool.true_eq_false, if_true, if_false, ND.ix_tup, ix_lst, at_0, at_1, at_2, at_3, at_4, ND.len_tup, ND.len_lst, eq_int, eq_bl, op_addI, op_subI, op_ltI, op_leI, op_gtI, op_geI, op_addX_i, op_addX_s, op_addX_l, op_addX_t, op_mulX_i, op_mulX_l, op_isN_non, op_isN_tup, op_isN_lst, op_isN_ins, op_isB, sl_lst, int_int, int_bl, i1_int, i2f_int, src_tup, src_lst, negI, decide_true, decide_false, List.length_map])) (fun i env s => (∃ o, env = [some (.ref n), some (.lst (stL zs)), o]) ∧ s = st) ⟨⟨_, rfl⟩, rfl⟩ (fun i d env s hd ⟨⟨o, q1⟩, q2⟩ => by
    subst q1 q2
    obtain ⟨rfl, hi⟩ := range_get hd
    rw [Int.zero_add]
    refine ⟨_, rfl, [some (.ref n), some (.lst (stL zs)), some (.int i)], s, .inl ?_, ⟨_, rfl⟩, rfl⟩
    have e3 := ix_r h hi
    have e4 := ix_l hi (st := s)
    simp only [l1__law_told, ev_bOr, ev_bNot, ev_tru, ev_eC, ev_aCons, ev_e2, ev_eVar, ev_aNil, ev_eK, ev_sIf, ev_toB, List.getElem?_cons_succ, List.getElem?_cons_zero, List.set_cons_succ, List.set_cons_zero, Res.bind_ok, toS_ok, e3, e4, isi_str, tru_bl, Bool.not_true, Bool.false_eq_true, if_false, eq_str, decide_true, if_true, ev_sNil])
  obtain ⟨⟨o, rfl⟩, rfl⟩ := And.intro q1 q2
  simp only [y__law_told, ev_sSeq, ev_sIf, ev_bOr, ev_bNot, ev_tru, ev_eC, ev_aCons, ev_eVar, ev_aNil, ev_eK, ev_toB, ev_e2, List.getElem?_cons_succ, List.getElem?_cons_zero, Res.bind_ok, toS_ok, e1, e2, ND.len_lst, tru_bl, Bool.not_true, Bool.false_eq_true, if_false, eq_int, if_true, decide_true, ev_sNil, seq_nx]
  unfold y__law_told_1
  rw [ev_sSeq, ef, seq_nx]
  exact fin_none0 rfl
def kindL (k : String) : List D := if k = "Listing" then [.bl true, .bl false, .bl false, .bl false] else if k = "NumberedListing" then [.bl true, .bl true, .bl false, .bl false] else if k = "TitledListing" then [.bl true, .bl false, .bl true, .bl false] else [.bl true, .bl true, .bl true, .bl true]
theorem isi_k {k : String} (hk : Kls k) {bs : List Box} {st : Sto} : isiD csL itL [inL k bs, .glo "Listing"] st = .ok ((kindL k).getD 0 .non) st ∧ isiD csL itL [inL k bs, .glo "NumberedListing"] st = .ok ((kindL k).getD 1 .non) st ∧ isiD csL itL [inL k bs, .glo "TitledListing"] st = .ok ((kindL k).getD 2 .non) st ∧ isiD csL itL [inL k bs, .glo "FullListing"] st = .ok ((kindL k).getD 3 .non) st := by
  rcases hk with rfl | rfl | rfl | rfl <;> exact ⟨rfl, rfl, rfl, rfl⟩
theorem kinds_ok {k : String} (hk : Kls k) {bs : List Box} {st : Sto} : m__law_kinds [inL k bs] st = .ok (.lst (kindL k)) st := by
  show fnEnd false st (y__law_kinds [some (inL k bs), none] st) = _
  obtain ⟨h1, h2, h3, h4⟩ := isi_k hk (bs := bs) (st := st)
  have e : addL (.lst [(kindL k).getD 0 .non, (kindL k).getD 1 .non]) (.lst [(kindL k).getD 2 .non, (kindL k).getD 3 .non]) st = .ok (.lst (kindL k)) st := by
    show (if Ok (2 + 2 ≤ sizeLine) then Res.ok (D.lst ([(kindL k).getD 0 .non, (kindL k).getD 1 .non] ++ [(kindL k).getD 2 .non, (kindL k).getD 3 .non])) st else .bad) = _
    rw [if_pos (show Ok _ from by show 2 + 2 ≤ sizeLine; rw [sizeLine_eq]; decide)]
    rcases hk with rfl | rfl | rfl | rfl <;> rfl
  simp only [y__law_kinds, y__law_kinds_1, ev_sSeq, ev_sNil, ev_sIf, ev_sSet, ev_sDrop, ev_sRet, ev_sRetN, ev_sSetIx, ev_sAug, ev_bAnd, ev_bOr, ev_bNot, ev_bYes, ev_tru, ev_toB, ev_e2, ev_eVar, ev_eK, ev_eC, ev_eC0, ev_aCons, ev_aNil, ev_eIf, ev_eAnd, ev_eOr, ev_eNot, ev_eSl, ev_oSome, ev_oNone, ev_eFld, ev_eMeth, ev_eBM, ev_iVal, ev_iR1, ev_iR2, ev_gNm, ev_mkL_f, ev_mkL_t, ev_wipe0, ev_wipe1, ev_eLst0, ev_eTup0, List.getElem?_cons_succ, List.getElem?_cons_zero, List.set_cons_succ, List.set_cons_zero, Res.bind_ok, toS_ok, seq_nx, seq_rt, seq_bk, seq_ct, tru_bl, Bool.not_true, Bool.not_false, Bool.false_eq_true, Bool.true_eq_false, if_true, if_false, ND.ix_tup, ix_lst, at_0, at_1, at_2, at_3, at_4, ND.len_tup, ND.len_lst, eq_int, eq_bl, op_addI, op_subI, op_ltI, op_leI, op_gtI, op_geI, op_addX_i, op_addX_s, op_addX_l, op_addX_t, op_mulX_i, op_mulX_l, op_isN_non, op_isN_tup, op_isN_lst, op_isN_ins, op_isB, sl_lst, int_int, int_bl, i1_int, i2f_int, src_tup, src_lst, negI, decide_true, decide_false, h1, h2, h3, h4, e, ev_eLst, List.length_cons, List.length_nil, ok_szl, Nat.zero_add, Nat.reduceAdd, Nat.reduceLeDiff, end_rt_f]
  refine fin_none0 ?_
  rcases hk with rfl | rfl | rfl | rfl <;> rfl
/-! ### the objects -/
def objL (bs : List Box) : List D := [inL "Listing" bs, inL "NumberedListing" bs, inL "TitledListing" bs, inL "FullListing" bs]
theorem okDs_bx (bs : List Box) : okDs true (bs.map bxD) = true := okDs_iff.mpr fun x hx => by
  obtain ⟨b, _, rfl⟩ := List.mem_map.mp hx
  rfl
theorem dep_bx (bs : List Box) : depDs (bs.map bxD) ≤ 1 := depDs_le fun x hx => by
  obtain ⟨b, _, rfl⟩ := List.mem_map.mp hx
  simp [bxD, depD, depDs]
theorem app_ok {st : Sto} {n : Nat} {xs : List D} {y : D} (h : st[n]? = some (.lst xs)) (hz : xs.length < 16777216) : appendD (.ref n) [y] st = .ok .non (st.set n (.lst (xs ++ [y]))) := app_at h hz
theorem rev_ok {st : Sto} {n : Nat} {xs : List D} (h : st[n]? = some (.lst xs)) : reverseD (.ref n) [] st = .ok .non (st.set n (.lst xs.reverse)) := by
  unfold reverseD
  have : liveL st (.ref n) = some (n, xs) := by
    unfold liveL
    simp only [h]
  rw [this]
  rfl
theorem clr_ok {st : Sto} {n : Nat} {xs : List D} (h : st[n]? = some (.lst xs)) : clearD (.ref n) [] st = .ok .non (st.set n (.lst [])) := by
  unfold clearD
  have : liveL st (.ref n) = some (n, xs) := by
    unfold liveL
    simp only [h]
  rw [this]
  rfl
theorem sq_r {st : Sto} {n : Nat} {xs : List D} (h : st[n]? = some (.lst xs)) : seqL st (.ref n) = some xs := by
  rw [sq_ref, h]
theorem tup_r {st : Sto} {n : Nat} {xs : List D} (h : st[n]? = some (.lst xs)) : tupD [.ref n] st = .ok (.tup xs) st := by
  rw [ND.tup_ref, h]
theorem get_app {st : Sto} {n : Nat} {x : SO} {o : SO} (h : st[n]? = some x) : (st ++ [o])[n]? = some x := by
  rw [List.getElem?_append_left (List.getElem?_eq_some_iff.mp h).1]
  exact h
theorem made_ok {bs : List Box} (h : BsOk bs) {st : Sto} : m__law_made [.lst (bs.map bxD)] st = .ok (.lst (objL bs)) st := by
  have hl := h.len
  show fnEnd false st (y__law_made [some (.lst (bs.map bxD)), none, none, none, none] st) = _
  have g0 : (st ++ [SO.lst (bs.map bxD), SO.lst (bs.map bxD)])[st.length]? = some (.lst (bs.map bxD)) := get_two0
  have g1 : (st ++ [SO.lst (bs.map bxD), SO.lst (bs.map bxD)])[st.length + 1]? = some (.lst (bs.map bxD)) := get_two1
  have k1 := mk_ok (k := "Listing") (.inl rfl) (x := .ref st.length) (bs := bs) (st := st ++ [SO.lst (bs.map bxD), SO.lst (bs.map bxD)]) fun o => tup_r (get_app g0)
  have k2 := mk_ok (k := "NumberedListing") (.inr (.inl rfl)) (x := .tup (bs.map bxD)) (bs := bs) (st := st ++ [SO.lst (bs.map bxD), SO.lst (bs.map bxD)]) fun o => rfl
  have k3 := mk_ok (k := "TitledListing") (.inr (.inr (.inl rfl))) (x := .ref (st.length + 1)) (bs := bs) (st := st ++ [SO.lst (bs.map bxD), SO.lst (bs.map bxD)]) fun o => tup_r (get_app g1)
  have k4 := mk_ok (k := "FullListing") (.inr (.inr (.inr rfl))) (x := .ref st.length) (bs := bs) (st := st ++ [SO.lst (bs.map bxD), SO.lst (bs.map bxD)]) fun o => tup_r (get_app g0)
  have q1 := eqD_ref (neg := false) g0 (by unfold okD; exact okDs_bx bs) (by have := dep_bx bs; omega)
  have q2 := eqD_ref (neg := false) g1 (by unfold okD; exact okDs_bx bs) (by have := dep_bx bs; omega)
  have s3 : y__law_made [some (.lst (bs.map bxD)), none, none, none, none] st = y__law_made_4 [some (.lst (bs.map bxD)), some (.ref st.length), some (.ref (st.length + 1)), some (.lst (objL bs)), some (.bl true)] (st ++ [SO.lst (bs.map bxD), SO.lst (bs.map bxD)]) := by
    have ea : (st ++ [SO.lst (bs.map bxD)]) ++ [SO.lst (bs.map bxD)] = st ++ [SO.lst (bs.map bxD), SO.lst (bs.map bxD)] := by rw [List.append_assoc] <;> rfl
    have el : (st ++ [SO.lst (bs.map bxD)]).length = st.length + 1 := by rw [List.length_append] <;> rfl
    simp only [y__law_made, y__law_made_1, ev_sSeq, ev_sNil, ev_sIf, ev_sSet, ev_sDrop, ev_sRet, ev_sRetN, ev_sSetIx, ev_sAug, ev_bAnd, ev_bOr, ev_bNot, ev_bYes, ev_tru, ev_toB, ev_e2, ev_eVar, ev_eK, ev_eC, ev_eC0, ev_aCons, ev_aNil, ev_eIf, ev_eAnd, ev_eOr, ev_eNot, ev_eSl, ev_oSome, ev_oNone, ev_eFld, ev_eMeth, ev_eBM, ev_iVal, ev_iR1, ev_iR2, ev_gNm, ev_mkL_f, ev_mkL_t, ev_wipe0, ev_wipe1, ev_eLst0, ev_eTup0, List.getElem?_cons_succ, List.getElem?_cons_zero, List.set_cons_succ, List.set_cons_zero, Res.bind_ok, toS_ok, seq_nx, seq_rt, seq_bk, seq_ct, tru_bl, Bool.not_true, Bool.not_false, Bool.false_eq_true, Bool.true_eq_false, if_true, if_false, ND.ix_tup, ix_lst, at_0, at_1, at_2, at_3, at_4, ND.len_tup, ND.len_lst, eq_int, eq_bl, op_addI, op_subI, op_ltI, op_leI, op_gtI, op_geI, op_addX_i, op_addX_s, op_addX_l, op_addX_t, op_mulX_i, op_mulX_l, op_isN_non, op_isN_tup, op_isN_lst, op_isN_ins, op_isB, sl_lst, int_int, int_bl, i1_int, i2f_int, src_tup, src_lst, negI, decide_true, decide_false, list_x, sx_lst, ea, el]
    generalize hA : st ++ [SO.lst (bs.map bxD), SO.lst (bs.map bxD)] = A at *
    simp only [y__law_made_2, y__law_made_3, ev_sSeq, ev_sNil, ev_sIf, ev_sSet, ev_sDrop, ev_sRet, ev_sRetN, ev_sSetIx, ev_sAug, ev_bAnd, ev_bOr, ev_bNot, ev_bYes, ev_tru, ev_toB, ev_e2, ev_eVar, ev_eK, ev_eC, ev_eC0, ev_aCons, ev_aNil, ev_eIf, ev_eAnd, ev_eOr, ev_eNot, ev_eSl, ev_oSome, ev_oNone, ev_eFld, ev_eMeth, ev_eBM, ev_iVal, ev_iR1, ev_iR2, ev_gNm, ev_mkL_f, ev_mkL_t, ev_wipe0, ev_wipe1, ev_eLst0, ev_eTup0, List.getElem?_cons_succ, List.getElem?_cons_zero, List.set_cons_succ, List.set_cons_zero, Res.bind_ok, toS_ok, seq_nx, seq_rt, seq_bk, seq_ct, tru_bl, Bool.not_true, Bool.not_false, Bool.false_eq_true, Bool.true_eq_false, if_true, if_false, ND.ix_tup, ix_lst, at_0, at_1, at_2, at_3, at_4, ND.len_tup, ND.len_lst, eq_int, eq_bl, op_addI, op_subI, op_ltI, op_leI, op_gtI, op_geI, op_addX_i, op_addX_s, op_addX_l, op_addX_t, op_mulX_i, op_mulX_l, op_isN_non, op_isN_tup, op_isN_lst, op_isN_ins, op_isB, sl_lst, int_int, int_bl, i1_int, i2f_int, src_tup, src_lst, negI, decide_true, decide_false, tup_lst, k1, k2, k3, k4, ev_eLst, List.length_cons, List.length_nil, ok_szl, Nat.zero_add, Nat.reduceAdd, Nat.reduceLeDiff, q1, q2]
    rfl
  have z : (bs.map bxD).length < 16777216 := by rw [List.length_map]; omega
  generalize hX : bs.map bxD = X at *
  generalize hy : D.tup [.str "zz", .int 1, .int 2, .int 3, .int 4] = y
  have s4 : appendD (.ref st.length) [y] (st ++ [SO.lst X, SO.lst X]) = .ok .non (st ++ [SO.lst (X ++ [y]), SO.lst X]) := by
    rw [app_ok g0 z, set_two0]
  have g1' : (st ++ [SO.lst (X ++ [y]), SO.lst X])[st.length + 1]? = some (.lst X) := get_two1
  have s5 : reverseD (.ref (st.length + 1)) [] (st ++ [SO.lst (X ++ [y]), SO.lst X]) = .ok .non (st ++ [SO.lst (X ++ [y]), SO.lst X.reverse]) := by
    rw [rev_ok g1', set_two1]
  have g2' : (st ++ [SO.lst (X ++ [y]), SO.lst X.reverse])[st.length + 1]? = some (.lst X.reverse) := get_two1
  have s6 : appendD (.ref (st.length + 1)) [y] (st ++ [SO.lst (X ++ [y]), SO.lst X.reverse]) = .ok .non (st ++ [SO.lst (X ++ [y]), SO.lst (X.reverse ++ [y])]) := by
    rw [app_ok g2' (by rw [List.length_reverse]; exact z), set_two1]
  have l4 := sq_r g0
  have l5 := sq_r g1'
  have l6 := sq_r g2'
  have hy' : ∀ (env : ND.Env) (s : Sto), eTup (aCons (eK (.str "zz")) (aCons (eK (.int 1)) (aCons (eK (.int 2)) (aCons (eK (.int 3)) (aCons (eK (.int 4)) aNil))))) env s = .ok y s := fun env s => by
    rw [← hy]
    simp only [ev_eTup, ev_aCons, ev_eK, ev_aNil, Res.bind_ok, List.length_cons, List.length_nil, ok_szl, Nat.zero_add, Nat.reduceAdd, Nat.reduceLeDiff, if_true]
  rw [s3]
  generalize hA : st ++ [SO.lst X, SO.lst X] = A at *
  generalize hB : st ++ [SO.lst (X ++ [y]), SO.lst X] = B at *
  generalize hC : st ++ [SO.lst (X ++ [y]), SO.lst X.reverse] = C at *
  have t1 : y__law_made_4 [some (.lst X), some (.ref st.length), some (.ref (st.length + 1)), some (.lst (objL bs)), some (.bl true)] A = .rt (.lst (objL bs)) (st ++ [SO.lst (X ++ [y]), SO.lst (X.reverse ++ [y])]) := by
    simp only [y__law_made_4, y__law_made_5, y__law_made_6, y__law_made_7, y__law_made_8, ev_sSeq, ev_sDrop, ev_eBM, ev_aCons, ev_aNil, ev_eVar, List.getElem?_cons_succ, List.getElem?_cons_zero, Res.bind_ok, toS_ok, seq_nx, hy', s4, s5, s6, l4, l5, l6, ev_sIf, ev_bNot, ev_tru, tru_bl, Bool.not_true, Bool.false_eq_true, if_false, ev_sNil, ev_sRet]
  rw [t1, end_rt_f]
  refine fin_none ?_
  show (pd (inL "Listing" bs) && (pd (inL "NumberedListing" bs) && (pd (inL "TitledListing" bs) && (pd (inL "FullListing" bs) && true)))) = true
  have p : ∀ k, pd (inL k bs) = true := fun k => by
    show (pds (bs.map bxD) && true) = true
    rw [pds_bx]
    rfl
  rw [p, p, p, p]
  rfl
end K83
namespace K83
open PySem L2 ND
/-! ### the boxes drawn -/
abbrev abc : Str := "abcdefghijklmnopqrstuvwxyz"
theorem abc_len : abc.cps.toList.length = 26 := by decide +kernel
theorem letter_ok {i : Int} (h0 : 0 ≤ i) (h : i < 26) : ∃ c : Str, c.length = 1 ∧ ∀ st, ixD (.str abc) (.int i) st = .ok (.str c) st := by
  have hl : i.toNat < abc.cps.toList.length := by rw [abc_len]; omega
  refine ⟨⟨#[abc.cps.toList[i.toNat]]⟩, rfl, fun st => ?_⟩
  show (if Ok (abc.length ≤ sizeLine) then (match atI abc.cps.toList i with
      | some ch => Res.ok (D.str ⟨#[ch]⟩) st
      | none => .bad) else .bad) = _
  rw [if_pos (show Ok _ from by show abc.length ≤ sizeLine; rw [sizeLine_eq]; decide +kernel), at_pos h0, List.getElem?_eq_getElem hl]
theorem word_ok {b : SO} {k : Nat} (hb : BagOk b k) (hk : k < 2 ^ 58) : ∃ (z : Str) (b' : SO), BagOk b' (k + 10) ∧ z.length ≤ 100 ∧ ∀ r : Sto, m__law_word [.ref 0] (b :: r) = .ok (.str z) (b' :: r) := by
  obtain ⟨d1, b1, hb1, l1, u1, e1⟩ := draw_ok hb (by omega) (n := 6) (by decide) (by decide)
  obtain ⟨n, hn⟩ := Int.eq_ofNat_of_zero_le (show 0 ≤ 1 + d1 by omega)
  have step : ∀ (j : Nat), j ≤ 6 → ∀ (i : Nat) (z : Str) (b : SO), BagOk b (k + 1 + i) → i + j ≤ 6 → z.length = i → ∃ (z2 : Str) (b2 : SO), BagOk b2 (k + 1 + i + j) ∧ z2.length = i + j ∧ ∀ (r : Sto) (o : Option D), ∃ o2, loopR (Src.fz (rangeD 0 (i + j))).rd (gNm 3) l1__law_word j i [some (.ref 0), some (.str abc), some (.str z), o] (b :: r) = .nx [some (.ref 0), some (.str abc), some (.str z2), o2] (b2 :: r) := by
    intro j
    induction j with
    | zero =>
      intro _ i z b hb _ hz
      refine ⟨z, b, hb, by omega, fun r o => ⟨o, ?_⟩⟩
      have : (rangeD 0 (i + 0))[i]? = none := List.getElem?_eq_none (by rw [range_len]; omega)
      simp only [loopR, fz_rd, this]
    | succ j ih =>
      intro hj i z b hb hij hz
      obtain ⟨d, b2, hb2, l2, u2, e2⟩ := draw_ok hb (by omega) (n := 26) (by decide) (by decide)
      obtain ⟨c, hc, ec⟩ := letter_ok l2 u2
      obtain ⟨z3, b3, hb3, hz3, e3⟩ := ih (by omega) (i + 1) (z ++ c) b2 (by rw [show k + 1 + (i + 1) = k + 1 + i + 1 by omega]; exact hb2) (by omega) (by rw [Str.length_append]; omega)
      refine ⟨z3, b3, by rw [show k + 1 + i + (j + 1) = k + 1 + (i + 1) + j by omega]; exact hb3, by omega, fun r o => ?_⟩
      obtain ⟨o2, e4⟩ := e3 r (some (.int i))
      refine ⟨o2, ?_⟩
      have hr : (rangeD 0 (i + (j + 1)))[i]? = some (.int i) := by
        unfold rangeD
        rw [List.getElem?_map, List.getElem?_range (by omega)]
        simp
      have hadd := add_s (a := z) (c := c) (st := b2 :: r) (by omega)
      have hbody : l1__law_word [some (.ref 0), some (.str abc), some (.str z), some (.int i)] (b :: r) = .nx [some (.ref 0), some (.str abc), some (.str (z ++ c)), some (.int i)] (b2 :: r) := by
        have e2' := e2 r
        have ec' := ec (b2 :: r)
        generalize b :: r = A at *
        generalize b2 :: r = B at *
        simp only [l1__law_word, ev_sSet, ev_e2, ev_eVar, ev_eC, ev_aCons, ev_aNil, ev_eK, List.getElem?_cons_succ, List.getElem?_cons_zero, Res.bind_ok, toS_ok, e2', ec', op_addX_s, hadd, List.set_cons_succ, List.set_cons_zero]
      rw [show i + (j + 1) = i + 1 + j by omega] at hr
      rw [show i + (j + 1) = i + 1 + j by omega]
      simp only [loopR, fz_rd, hr, ev_gNm, List.set_cons_succ, List.set_cons_zero, hbody]
      exact e4
  have hn6 : n ≤ 6 := by omega
  obtain ⟨z, b2, hb2, hz, e2⟩ := step n hn6 0 Str.empty b1 hb1 (by omega) rfl
  refine ⟨z, b2, hb2.mono (by omega), by omega, fun r => ?_⟩
  obtain ⟨o2, e3⟩ := e2 r none
  have hi : iR1 (ND.e2 addX (eK (.int 1)) (eC m__law_draw (aCons (eVar 0) (aCons (eK (.int 6)) aNil)))) [some (.ref 0), some (.str abc), some (.str Str.empty), none] (b :: r) = .ok (.fz (rangeD 0 n)) (b1 :: r) := by
    have e1' := e1 r
    have hr := rng1_nat (n := n) (st := b1 :: r) (by omega)
    generalize b :: r = A at *
    generalize b1 :: r = B at *
    simp only [ev_iR1, ev_e2, ev_eK, ev_eC, ev_aCons, ev_eVar, ev_aNil, List.getElem?_cons_zero, Res.bind_ok, e1', op_addX_i, op_addI]
    rw [hn]
    exact hr
  show fnEnd false (b :: r) (y__law_word [some (.ref 0), none, none, none] (b :: r)) = _
  have hb0 : y__law_word [some (.ref 0), none, none, none] (b :: r) = y__law_word_2 [some (.ref 0), some (.str abc), some (.str Str.empty), none] (b :: r) := rfl
  rw [hb0]
  unfold y__law_word_2
  rw [Nat.zero_add] at e3
  have ef := for_fz hi (by rw [range_len]; exact e3)
  rw [ev_sSeq, ef, seq_nx]
  exact fin_bag0 hb2.pd rfl
theorem figure_ok {b : SO} {k : Nat} (hb : BagOk b k) (hk : k < 2 ^ 58) : ∃ (d : Int) (b' : SO), BagOk b' (k + 5) ∧ (-1000000000000 < d ∧ d < 1000000000000) ∧ ∀ r : Sto, m__law_figure [.ref 0] (b :: r) = .ok (.int d) (b' :: r) := by
  obtain ⟨w, b1, hb1, l1, u1, e1⟩ := draw_ok hb (by omega) (n := 5) (by decide) (by decide)
  obtain ⟨n0, b2, hb2, l2, u2, e2⟩ := draw_ok hb1 (by omega) (n := 11) (by decide) (by decide)
  have mid : ∃ (d : Int) (b' : SO), BagOk b' (k + 4) ∧ (-1000000000000 < d ∧ d < 1000000000000) ∧ ∀ r : Sto, y__law_figure_2 [some (.ref 0), some (.int w), some (.int n0)] (b2 :: r) = y__law_figure_3 [some (.ref 0), some (.int w), some (.int d)] (b' :: r) := by
    by_cases h1 : w = 1
    · obtain ⟨d, b3, hb3, l3, u3, e3⟩ := draw_ok hb2 (by omega) (n := 20) (by decide) (by decide)
      refine ⟨99990 + d, b3, hb3.mono (by omega), by omega, fun r => ?_⟩
      have e3' := e3 r
      generalize b2 :: r = A at *
      generalize b3 :: r = B at *
      subst h1
      simp only [y__law_figure_2, ev_sSeq, ev_sNil, ev_sIf, ev_sSet, ev_sDrop, ev_sRet, ev_sRetN, ev_sSetIx, ev_sAug, ev_bAnd, ev_bOr, ev_bNot, ev_bYes, ev_tru, ev_toB, ev_e2, ev_eVar, ev_eK, ev_eC, ev_eC0, ev_aCons, ev_aNil, ev_eIf, ev_eAnd, ev_eOr, ev_eNot, ev_eSl, ev_oSome, ev_oNone, ev_eFld, ev_eMeth, ev_eBM, ev_iVal, ev_iR1, ev_iR2, ev_gNm, ev_mkL_f, ev_mkL_t, ev_wipe0, ev_wipe1, ev_eLst0, ev_eTup0, List.getElem?_cons_succ, List.getElem?_cons_zero, List.set_cons_succ, List.set_cons_zero, Res.bind_ok, toS_ok, seq_nx, seq_rt, seq_bk, seq_ct, tru_bl, Bool.not_true, Bool.not_false, Bool.false_eq_true, Bool.true_eq_false, if_true, if_false, ND.ix_tup, ix_lst, at_0, at_1, at_2, at_3, at_4, ND.len_tup, ND.len_lst, eq_int, eq_bl, op_addI, op_subI, op_ltI, op_leI, op_gtI, op_geI, op_addX_i, op_addX_s, op_addX_l, op_addX_t, op_mulX_i, op_mulX_l, op_isN_non, op_isN_tup, op_isN_lst, op_isN_ins, op_isB, sl_lst, int_int, int_bl, i1_int, i2f_int, src_tup, src_lst, negI, decide_true, decide_false, e3']
    by_cases h2 : w = 2
    · obtain ⟨d, b3, hb3, l3, u3, e3⟩ := draw_ok hb2 (by omega) (n := 20) (by decide) (by decide)
      refine ⟨999990 + d, b3, hb3.mono (by omega), by omega, fun r => ?_⟩
      have e3' := e3 r
      generalize b2 :: r = A at *
      generalize b3 :: r = B at *
      subst h2
      simp only [y__law_figure_2, ev_sSeq, ev_sNil, ev_sIf, ev_sSet, ev_sDrop, ev_sRet, ev_sRetN, ev_sSetIx, ev_sAug, ev_bAnd, ev_bOr, ev_bNot, ev_bYes, ev_tru, ev_toB, ev_e2, ev_eVar, ev_eK, ev_eC, ev_eC0, ev_aCons, ev_aNil, ev_eIf, ev_eAnd, ev_eOr, ev_eNot, ev_eSl, ev_oSome, ev_oNone, ev_eFld, ev_eMeth, ev_eBM, ev_iVal, ev_iR1, ev_iR2, ev_gNm, ev_mkL_f, ev_mkL_t, ev_wipe0, ev_wipe1, ev_eLst0, ev_eTup0, List.getElem?_cons_succ, List.getElem?_cons_zero, List.set_cons_succ, List.set_cons_zero, Res.bind_ok, toS_ok, seq_nx, seq_rt, seq_bk, seq_ct, tru_bl, Bool.not_true, Bool.not_false, Bool.false_eq_true, Bool.true_eq_false, if_true, if_false, ND.ix_tup, ix_lst, at_0, at_1, at_2, at_3, at_4, ND.len_tup, ND.len_lst, eq_int, eq_bl, op_addI, op_subI, op_ltI, op_leI, op_gtI, op_geI, op_addX_i, op_addX_s, op_addX_l, op_addX_t, op_mulX_i, op_mulX_l, op_isN_non, op_isN_tup, op_isN_lst, op_isN_ins, op_isB, sl_lst, int_int, int_bl, i1_int, i2f_int, src_tup, src_lst, negI, decide_true, decide_false, e3', show ((2 : Int) = 1) = False by decide]
    by_cases h3 : w = 3
    · obtain ⟨d, b3, hb3, l3, u3, e3⟩ := draw_ok hb2 (by omega) (n := 1000000) (by decide) (by decide)
      refine ⟨d, b3, hb3.mono (by omega), by omega, fun r => ?_⟩
      have e3' := e3 r
      generalize b2 :: r = A at *
      generalize b3 :: r = B at *
      subst h3
      simp only [y__law_figure_2, ev_sSeq, ev_sNil, ev_sIf, ev_sSet, ev_sDrop, ev_sRet, ev_sRetN, ev_sSetIx, ev_sAug, ev_bAnd, ev_bOr, ev_bNot, ev_bYes, ev_tru, ev_toB, ev_e2, ev_eVar, ev_eK, ev_eC, ev_eC0, ev_aCons, ev_aNil, ev_eIf, ev_eAnd, ev_eOr, ev_eNot, ev_eSl, ev_oSome, ev_oNone, ev_eFld, ev_eMeth, ev_eBM, ev_iVal, ev_iR1, ev_iR2, ev_gNm, ev_mkL_f, ev_mkL_t, ev_wipe0, ev_wipe1, ev_eLst0, ev_eTup0, List.getElem?_cons_succ, List.getElem?_cons_zero, List.set_cons_succ, List.set_cons_zero, Res.bind_ok, toS_ok, seq_nx, seq_rt, seq_bk, seq_ct, tru_bl, Bool.not_true, Bool.not_false, Bool.false_eq_true, Bool.true_eq_false, if_true, if_false, ND.ix_tup, ix_lst, at_0, at_1, at_2, at_3, at_4, ND.len_tup, ND.len_lst, eq_int, eq_bl, op_addI, op_subI, op_ltI, op_leI, op_gtI, op_geI, op_addX_i, op_addX_s, op_addX_l, op_addX_t, op_mulX_i, op_mulX_l, op_isN_non, op_isN_tup, op_isN_lst, op_isN_ins, op_isB, sl_lst, int_int, int_bl, i1_int, i2f_int, src_tup, src_lst, negI, decide_true, decide_false, e3', show ((3 : Int) = 1) = False by decide, show ((3 : Int) = 2) = False by decide]
    by_cases h4 : w = 4
    · obtain ⟨d, b3, hb3, l3, u3, e3⟩ := draw_ok hb2 (by omega) (n := 1000000) (by decide) (by decide)
      obtain ⟨d2, b4, hb4, l4, u4, e4⟩ := draw_ok hb3 (by omega) (n := 1000000) (by decide) (by decide)
      refine ⟨d * 1000000 + d2, b4, hb4.mono (by omega), by omega, fun r => ?_⟩
      have m1 : ∀ st : Sto, mulI (.int d) (.int 1000000) st = .ok (.int (d * 1000000)) st := fun st => op_mulS l3 (by omega) (by decide) (by decide)
      have e3' := e3 r
      have e4' := e4 r
      generalize b2 :: r = A at *
      generalize b3 :: r = B at *
      generalize b4 :: r = B2 at *
      subst h4
      simp only [y__law_figure_2, ev_sSeq, ev_sNil, ev_sIf, ev_sSet, ev_sDrop, ev_sRet, ev_sRetN, ev_sSetIx, ev_sAug, ev_bAnd, ev_bOr, ev_bNot, ev_bYes, ev_tru, ev_toB, ev_e2, ev_eVar, ev_eK, ev_eC, ev_eC0, ev_aCons, ev_aNil, ev_eIf, ev_eAnd, ev_eOr, ev_eNot, ev_eSl, ev_oSome, ev_oNone, ev_eFld, ev_eMeth, ev_eBM, ev_iVal, ev_iR1, ev_iR2, ev_gNm, ev_mkL_f, ev_mkL_t, ev_wipe0, ev_wipe1, ev_eLst0, ev_eTup0, List.getElem?_cons_succ, List.getElem?_cons_zero, List.set_cons_succ, List.set_cons_zero, Res.bind_ok, toS_ok, seq_nx, seq_rt, seq_bk, seq_ct, tru_bl, Bool.not_true, Bool.not_false, Bool.false_eq_true, Bool.true_eq_false, if_true, if_false, ND.ix_tup, ix_lst, at_0, at_1, at_2, at_3, at_4, ND.len_tup, ND.len_lst, eq_int, eq_bl, op_addI, op_subI, op_ltI, op_leI, op_gtI, op_geI, op_addX_i, op_addX_s, op_addX_l, op_addX_t, op_mulX_i, op_mulX_l, op_isN_non, op_isN_tup, op_isN_lst, op_isN_ins, op_isB, sl_lst, int_int, int_bl, i1_int, i2f_int, src_tup, src_lst, negI, decide_true, decide_false, e3', e4', m1, show ((4 : Int) = 1) = False by decide, show ((4 : Int) = 2) = False by decide, show ((4 : Int) = 3) = False by decide]
    · refine ⟨n0, b2, hb2.mono (by omega), by omega, fun r => ?_⟩
      generalize b2 :: r = A at *
      simp only [y__law_figure_2, ev_sSeq, ev_sNil, ev_sIf, ev_sSet, ev_sDrop, ev_sRet, ev_sRetN, ev_sSetIx, ev_sAug, ev_bAnd, ev_bOr, ev_bNot, ev_bYes, ev_tru, ev_toB, ev_e2, ev_eVar, ev_eK, ev_eC, ev_eC0, ev_aCons, ev_aNil, ev_eIf, ev_eAnd, ev_eOr, ev_eNot, ev_eSl, ev_oSome, ev_oNone, ev_eFld, ev_eMeth, ev_eBM, ev_iVal, ev_iR1, ev_iR2, ev_gNm, ev_mkL_f, ev_mkL_t, ev_wipe0, ev_wipe1, ev_eLst0, ev_eTup0, List.getElem?_cons_succ, List.getElem?_cons_zero, List.set_cons_succ, List.set_cons_zero, Res.bind_ok, toS_ok, seq_nx, seq_rt, seq_bk, seq_ct, tru_bl, Bool.not_true, Bool.not_false, Bool.false_eq_true, Bool.true_eq_false, if_true, if_false, ND.ix_tup, ix_lst, at_0, at_1, at_2, at_3, at_4, ND.len_tup, ND.len_lst, eq_int, eq_bl, op_addI, op_subI, op_ltI, op_leI, op_gtI, op_geI, op_addX_i, op_addX_s, op_addX_l, op_addX_t, op_mulX_i, op_mulX_l, op_isN_non, op_isN_tup, op_isN_lst, op_isN_ins, op_isB, sl_lst, int_int, int_bl, i1_int, i2f_int, src_tup, src_lst, negI, decide_true, decide_false, h1, h2, h3, h4]
  obtain ⟨d, b4, hb4, ld, ed⟩ := mid
  obtain ⟨s, b5, hb5, l5, u5, e5⟩ := draw_ok hb4 (by omega) (n := 3) (by decide) (by decide)
  refine ⟨if s = 0 then 0 - d else d, b5, hb5, by split <;> omega, fun r => ?_⟩
  show fnEnd false (b :: r) (y__law_figure [some (.ref 0), none, none] (b :: r)) = _
  have e1' := e1 r
  have e2' := e2 r
  have ed' := ed r
  have e5' := e5 r
  have f : ∀ v : Int, fin (b :: r) (.int v) (b5 :: r) = .ok (.int v) (b5 :: r) := fun v => fin_bag0 hb5.pd rfl
  generalize b :: r = A at *
  generalize b1 :: r = B at *
  generalize b2 :: r = B2 at *
  generalize b4 :: r = B4 at *
  generalize b5 :: r = B5 at *
  simp only [y__law_figure, y__law_figure_1, ev_sSeq, ev_sNil, ev_sIf, ev_sSet, ev_sDrop, ev_sRet, ev_sRetN, ev_sSetIx, ev_sAug, ev_bAnd, ev_bOr, ev_bNot, ev_bYes, ev_tru, ev_toB, ev_e2, ev_eVar, ev_eK, ev_eC, ev_eC0, ev_aCons, ev_aNil, ev_eIf, ev_eAnd, ev_eOr, ev_eNot, ev_eSl, ev_oSome, ev_oNone, ev_eFld, ev_eMeth, ev_eBM, ev_iVal, ev_iR1, ev_iR2, ev_gNm, ev_mkL_f, ev_mkL_t, ev_wipe0, ev_wipe1, ev_eLst0, ev_eTup0, List.getElem?_cons_succ, List.getElem?_cons_zero, List.set_cons_succ, List.set_cons_zero, Res.bind_ok, toS_ok, seq_nx, seq_rt, seq_bk, seq_ct, tru_bl, Bool.not_true, Bool.not_false, Bool.false_eq_true, Bool.true_eq_false, if_true, if_false, ND.ix_tup, ix_lst, at_0, at_1, at_2, at_3, at_4, ND.len_tup, ND.len_lst, eq_int, eq_bl, op_addI, op_subI, op_ltI, op_leI, op_gtI, op_geI, op_addX_i, op_addX_s, op_addX_l, op_addX_t, op_mulX_i, op_mulX_l, op_isN_non, op_isN_tup, op_isN_lst, op_isN_ins, op_isB, sl_lst, int_int, int_bl, i1_int, i2f_int, src_tup, src_lst, negI, decide_true, decide_false, e1', e2', ed']
  by_cases z : s = 0
  · simp only [y__law_figure_3, y__law_figure_4, ev_sSeq, ev_sNil, ev_sIf, ev_sSet, ev_sDrop, ev_sRet, ev_sRetN, ev_sSetIx, ev_sAug, ev_bAnd, ev_bOr, ev_bNot, ev_bYes, ev_tru, ev_toB, ev_e2, ev_eVar, ev_eK, ev_eC, ev_eC0, ev_aCons, ev_aNil, ev_eIf, ev_eAnd, ev_eOr, ev_eNot, ev_eSl, ev_oSome, ev_oNone, ev_eFld, ev_eMeth, ev_eBM, ev_iVal, ev_iR1, ev_iR2, ev_gNm, ev_mkL_f, ev_mkL_t, ev_wipe0, ev_wipe1, ev_eLst0, ev_eTup0, List.getElem?_cons_succ, List.getElem?_cons_zero, List.set_cons_succ, List.set_cons_zero, Res.bind_ok, toS_ok, seq_nx, seq_rt, seq_bk, seq_ct, tru_bl, Bool.not_true, Bool.not_false, Bool.false_eq_true, Bool.true_eq_false, if_true, if_false, ND.ix_tup, ix_lst, at_0, at_1, at_2, at_3, at_4, ND.len_tup, ND.len_lst, eq_int, eq_bl, op_addI, op_subI, op_ltI, op_leI, op_gtI, op_geI, op_addX_i, op_addX_s, op_addX_l, op_addX_t, op_mulX_i, op_mulX_l, op_isN_non, op_isN_tup, op_isN_lst, op_isN_ins, op_isB, sl_lst, int_int, int_bl, i1_int, i2f_int, src_tup, src_lst, negI, decide_true, decide_false, e5', z, end_rt_f, f]
  · simp only [y__law_figure_3, y__law_figure_4, ev_sSeq, ev_sNil, ev_sIf, ev_sSet, ev_sDrop, ev_sRet, ev_sRetN, ev_sSetIx, ev_sAug, ev_bAnd, ev_bOr, ev_bNot, ev_bYes, ev_tru, ev_toB, ev_e2, ev_eVar, ev_eK, ev_eC, ev_eC0, ev_aCons, ev_aNil, ev_eIf, ev_eAnd, ev_eOr, ev_eNot, ev_eSl, ev_oSome, ev_oNone, ev_eFld, ev_eMeth, ev_eBM, ev_iVal, ev_iR1, ev_iR2, ev_gNm, ev_mkL_f, ev_mkL_t, ev_wipe0, ev_wipe1, ev_eLst0, ev_eTup0, List.getElem?_cons_succ, List.getElem?_cons_zero, List.set_cons_succ, List.set_cons_zero, Res.bind_ok, toS_ok, seq_nx, seq_rt, seq_bk, seq_ct, tru_bl, Bool.not_true, Bool.not_false, Bool.false_eq_true, Bool.true_eq_false, if_true, if_false, ND.ix_tup, ix_lst, at_0, at_1, at_2, at_3, at_4, ND.len_tup, ND.len_lst, eq_int, eq_bl, op_addI, op_subI, op_ltI, op_leI, op_gtI, op_geI, op_addX_i, op_addX_s, op_addX_l, op_addX_t, op_mulX_i, op_mulX_l, op_isN_non, op_isN_tup, op_isN_lst, op_isN_ins, op_isB, sl_lst, int_int, int_bl, i1_int, i2f_int, src_tup, src_lst, negI, decide_true, decide_false, e5', z, end_rt_f, f]
theorem sm_fig {d : Int} (h : -1000000000000 < d ∧ d < 1000000000000) : Sm d := ⟨by omega, by omega⟩
theorem box_ok {b : SO} {k : Nat} (hb : BagOk b k) (hk : k < 2 ^ 57) : ∃ (x : Box) (b' : SO), BagOk b' (k + 30) ∧ BxOk x ∧ ∀ r : Sto, m__law_box [.ref 0] (b :: r) = .ok (bxD x) (b' :: r) := by
  obtain ⟨z, b1, hb1, lz, e1⟩ := word_ok hb (by omega)
  obtain ⟨d1, b2, hb2, l1, e2⟩ := figure_ok hb1 (by omega)
  obtain ⟨d2, b3, hb3, l2, e3⟩ := figure_ok hb2 (by omega)
  obtain ⟨d3, b4, hb4, l3, e4⟩ := figure_ok hb3 (by omega)
  obtain ⟨d4, b5, hb5, l4, e5⟩ := figure_ok hb4 (by omega)
  refine ⟨(z, d1, d2, d3, d4), b5, hb5.mono (by omega), ⟨lz, sm_fig l1, sm_fig l2, sm_fig l3, sm_fig l4⟩, fun r => ?_⟩
  have e1' := e1 r
  have e2' := e2 r
  have e3' := e3 r
  have e4' := e4 r
  have e5' := e5 r
  have f : fin (b :: r) (bxD (z, d1, d2, d3, d4)) (b5 :: r) = .ok (bxD (z, d1, d2, d3, d4)) (b5 :: r) := fin_bag0 hb5.pd rfl
  show fnEnd false (b :: r) (y__law_box [some (.ref 0)] (b :: r)) = _
  generalize b :: r = A at *
  generalize b1 :: r = B at *
  generalize b2 :: r = B2 at *
  generalize b3 :: r = B3 at *
  generalize b4 :: r = B4 at *
  generalize b5 :: r = B5 at *
  simp only [y__law_box, ev_sSeq, ev_sNil, ev_sIf, ev_sSet, ev_sDrop, ev_sRet, ev_sRetN, ev_sSetIx, ev_sAug, ev_bAnd, ev_bOr, ev_bNot, ev_bYes, ev_tru, ev_toB, ev_e2, ev_eVar, ev_eK, ev_eC, ev_eC0, ev_aCons, ev_aNil, ev_eIf, ev_eAnd, ev_eOr, ev_eNot, ev_eSl, ev_oSome, ev_oNone, ev_eFld, ev_eMeth, ev_eBM, ev_iVal, ev_iR1, ev_iR2, ev_gNm, ev_mkL_f, ev_mkL_t, ev_wipe0, ev_wipe1, ev_eLst0, ev_eTup0, List.getElem?_cons_succ, List.getElem?_cons_zero, List.set_cons_succ, List.set_cons_zero, Res.bind_ok, toS_ok, seq_nx, seq_rt, seq_bk, seq_ct, tru_bl, Bool.not_true, Bool.not_false, Bool.false_eq_true, Bool.true_eq_false, if_true, if_false, ND.ix_tup, ix_lst, at_0, at_1, at_2, at_3, at_4, ND.len_tup, ND.len_lst, eq_int, eq_bl, op_addI, op_subI, op_ltI, op_leI, op_gtI, op_geI, op_addX_i, op_addX_s, op_addX_l, op_addX_t, op_mulX_i, op_mulX_l, op_isN_non, op_isN_tup, op_isN_lst, op_isN_ins, op_isB, sl_lst, int_int, int_bl, i1_int, i2f_int, src_tup, src_lst, negI, decide_true, decide_false, e1', e2', e3', e4', e5', ev_eTup, List.length_cons, List.length_nil, ok_szl, Nat.zero_add, Nat.reduceAdd, Nat.reduceLeDiff, end_rt_f]
  exact f
theorem named_ok {i : Nat} (hi : i ≤ 1100) : ∃ z : Str, z.length ≤ 100 ∧ ∀ st, m__law_named [.int i] st = .ok (.str z) st := by
  obtain ⟨c1, h1, e1⟩ := letter_ok (i := (i : Int) / 676) (by omega) (by omega)
  obtain ⟨c2, h2, e2⟩ := letter_ok (i := (i : Int) / 26 % 26) (by omega) (by omega)
  obtain ⟨c3, h3, e3⟩ := letter_ok (i := (i : Int) % 26) (by omega) (by omega)
  refine ⟨c1 ++ c2 ++ c3, by rw [Str.length_append, Str.length_append]; omega, fun st => ?_⟩
  show fnEnd false st (y__law_named [some (.int i), none] st) = _
  have d1 : divI (.int (i : Int)) (.int 676) st = .ok (.int ((i : Int) / 676)) st := op_divS (by decide) (by decide)
  have d2 : divI (.int (i : Int)) (.int 26) st = .ok (.int ((i : Int) / 26)) st := op_divS (by decide) (by decide)
  have d3 : modI (.int ((i : Int) / 26)) (.int 26) st = .ok (.int ((i : Int) / 26 % 26)) st := op_modI (by decide)
  have d4 : modI (.int (i : Int)) (.int 26) st = .ok (.int ((i : Int) % 26)) st := op_modI (by decide)
  have a1 := add_s (a := c1) (c := c2) (st := st) (by omega)
  have a2 := add_s (a := c1 ++ c2) (c := c3) (st := st) (by rw [Str.length_append]; omega)
  have e1' := e1 st
  have e2' := e2 st
  have e3' := e3 st
  simp only [y__law_named, y__law_named_1, ev_sSeq, ev_sNil, ev_sIf, ev_sSet, ev_sDrop, ev_sRet, ev_sRetN, ev_sSetIx, ev_sAug, ev_bAnd, ev_bOr, ev_bNot, ev_bYes, ev_tru, ev_toB, ev_e2, ev_eVar, ev_eK, ev_eC, ev_eC0, ev_aCons, ev_aNil, ev_eIf, ev_eAnd, ev_eOr, ev_eNot, ev_eSl, ev_oSome, ev_oNone, ev_eFld, ev_eMeth, ev_eBM, ev_iVal, ev_iR1, ev_iR2, ev_gNm, ev_mkL_f, ev_mkL_t, ev_wipe0, ev_wipe1, ev_eLst0, ev_eTup0, List.getElem?_cons_succ, List.getElem?_cons_zero, List.set_cons_succ, List.set_cons_zero, Res.bind_ok, toS_ok, seq_nx, seq_rt, seq_bk, seq_ct, tru_bl, Bool.not_true, Bool.not_false, Bool.false_eq_true, Bool.true_eq_false, if_true, if_false, ND.ix_tup, ix_lst, at_0, at_1, at_2, at_3, at_4, ND.len_tup, ND.len_lst, eq_int, eq_bl, op_addI, op_subI, op_ltI, op_leI, op_gtI, op_geI, op_addX_i, op_addX_s, op_addX_l, op_addX_t, op_mulX_i, op_mulX_l, op_isN_non, op_isN_tup, op_isN_lst, op_isN_ins, op_isB, sl_lst, int_int, int_bl, i1_int, i2f_int, src_tup, src_lst, negI, decide_true, decide_false, d1, d2, d3, d4, e1', e2', e3', a1, a2, end_rt_f]
  exact fin_none0 rfl
theorem take_snoc {α β : Type} {f : α → β} {xs : List α} {x : α} : xs.map f ++ [f x] = (xs ++ [x]).map f := by rw [List.map_append] <;> rfl
/-- a row of draws, one behind the other -/
theorem comp_draw {α : Type} {F : α → D} {P : α → Prop} {c n k : Nat} {g : Nat} {me : M D} {env : ND.Env} {b : SO} {mi : M Src} {b0 : SO} {vs : List Nat} (hn : n ≤ 100000) (hk : k + c * n < 2 ^ 57) (hb : BagOk b k) (hi : ∀ r : Sto, mi env (b0 :: r) = .ok (.fz (rangeD 0 n)) (b :: r))
    (hme : ∀ (i : Nat) (b : SO) (k : Nat), i < n → BagOk b k → k < 2 ^ 57 → ∃ (x : α) (b' : SO), BagOk b' (k + c) ∧ P x ∧ ∀ r : Sto, me ((wipeD env vs).set g (some (.int i))) (b :: r) = .ok (F x) (b' :: r)) :
    ∃ (xs : List α) (b' : SO), BagOk b' (k + c * n) ∧ (∀ x ∈ xs, P x) ∧ xs.length = n ∧ ∀ r : Sto, eComp false mi (gNm g) bYes me vs env (b0 :: r) = .ok (.lst (xs.map F)) (b' :: r) := by
  have step : ∀ (j i : Nat) (ys : List α) (b : SO), i + j = n → BagOk b (k + c * i) → (∀ x ∈ ys, P x) → ys.length = i → ∃ (xs : List α) (b' : SO), BagOk b' (k + c * n) ∧ (∀ x ∈ xs, P x) ∧ xs.length = n ∧ ∀ r : Sto, compR (Src.fz (rangeD 0 n)).rd (gNm g) bYes me (wipeD env vs) j i (ys.map F) (b :: r) = .ok (xs.map F) (b' :: r) := by
    intro j
    induction j with
    | zero =>
      intro i ys b hij hb hy hl
      refine ⟨ys, b, by rw [show n = i by omega]; exact hb, hy, by omega, fun r => ?_⟩
      have : (rangeD 0 n)[i]? = none := List.getElem?_eq_none (by rw [range_len]; omega)
      simp only [compR, fz_rd, this]
    | succ j ih =>
      intro i ys b hij hb hy hl
      obtain ⟨x, b2, hb2, hx, e2⟩ := hme i b (k + c * i) (by omega) hb (by
        have : c * i ≤ c * n := Nat.mul_le_mul_left c (by omega)
        omega)
      obtain ⟨xs, b3, hb3, hxs, hl3, e3⟩ := ih (i + 1) (ys ++ [x]) b2 (by omega) (by rw [show k + c * (i + 1) = k + c * i + c by rw [Nat.mul_add]; omega]; exact hb2) (by
        intro y hy'
        rcases List.mem_append.mp hy' with h | h
        · exact hy y h
        · rw [List.mem_singleton.mp h]; exact hx) (by rw [List.length_append, hl] <;> rfl)
      refine ⟨xs, b3, hb3, hxs, hl3, fun r => ?_⟩
      have hr : (rangeD 0 n)[i]? = some (.int i) := by
        unfold rangeD
        rw [List.getElem?_map, List.getElem?_range (by omega)]
        simp
      have e3' := e3 r
      rw [← take_snoc] at e3'
      have e2' := e2 r
      have hz : Ok ((ys.map F).length < sizeLine) := by
        show (ys.map F).length < sizeLine
        rw [sizeLine_eq, List.length_map]
        omega
      simp only [compR, fz_rd, hr, ev_gNm, ev_bYes, noX, Res.bind_ok, if_true, e2', if_pos hz, e3']
  obtain ⟨xs, b', hb', hx, hl, e⟩ := step n 0 [] b (by omega) hb (by simp) rfl
  refine ⟨xs, b', hb', hx, hl, fun r => ?_⟩
  rw [ev_eComp, hi r, Res.bind_ok]
  have e' := e r
  rw [show (Src.fz (rangeD 0 n)).n = n from range_len, show ([] : List α).map F = [] from rfl] at *
  rw [e', Res.bind_ok, ev_mkL_f]
theorem boxes_ok {b : SO} {k : Nat} (hb : BagOk b k) (hk : k < 2 ^ 50) (large : Bool) : ∃ (bs : List Box) (b' : SO), BagOk b' (k + 40000) ∧ BsOk bs ∧ ∀ r : Sto, m__law_boxes [.ref 0, .bl large] (b :: r) = .ok (.lst (bs.map bxD)) (b' :: r) := by
  cases large with
  | false =>
    obtain ⟨d, b1, hb1, l1, u1, e1⟩ := draw_ok hb (by omega) (n := 7) (by decide) (by decide)
    obtain ⟨n, rfl⟩ := Int.eq_ofNat_of_zero_le l1
    obtain ⟨bs, b2, hb2, hx, hl, e2⟩ := comp_draw (α := Box) (F := bxD) (P := BxOk) (c := 30) (n := n) (g := 3) (me := eC m__law_box (aCons (eVar 0) aNil)) (env := [some (.ref 0), some (.bl false), none, none]) (b := b1) (k := k + 1) (mi := iR1 (eC m__law_draw (aCons (eVar 0) (aCons (eK (.int 7)) aNil)))) (b0 := b) (vs := [3]) (by omega) (by omega) hb1 (fun r => by
        have e1' := e1 r
        have hr := rng1_nat (n := n) (st := b1 :: r) (by omega)
        generalize b :: r = A at *
        generalize b1 :: r = B at *
        simp only [ev_iR1, ev_eK, ev_eC, ev_aCons, ev_eVar, ev_aNil, List.getElem?_cons_zero, Res.bind_ok, e1']
        exact hr) (fun i b k _ hb hk => by
        obtain ⟨x, b', hb', hx, e⟩ := box_ok hb hk
        refine ⟨x, b', hb', hx, fun r => ?_⟩
        have e' := e r
        generalize b :: r = A at *
        generalize b' :: r = B at *
        simp only [ev_wipe1, ev_wipe0, List.set_cons_succ, List.set_cons_zero, ev_eC, ev_aCons, ev_eVar, ev_aNil, List.getElem?_cons_zero, Res.bind_ok, e'])
    refine ⟨bs, b2, hb2.mono (by omega), ⟨hx, by omega⟩, fun r => ?_⟩
    have e2' := e2 r
    have f : fin (b :: r) (.lst (bs.map bxD)) (b2 :: r) = .ok (.lst (bs.map bxD)) (b2 :: r) := fin_bag0 hb2.pd (pds_bx bs)
    show fnEnd false (b :: r) (y__law_boxes [some (.ref 0), some (.bl false), none, none] (b :: r)) = _
    generalize b :: r = A at *
    generalize b2 :: r = B at *
    simp only [y__law_boxes, y__law_boxes_1, ev_sSeq, ev_sIf, ev_tru, ev_eVar, List.getElem?_cons_succ, List.getElem?_cons_zero, Res.bind_ok, tru_bl, toS_ok, Bool.false_eq_true, if_false, ev_sNil, seq_nx, ev_sRet, e2', end_rt_f, f]
  | true =>
    obtain ⟨s, b0, hb0, ls, e0⟩ := figure_ok hb (by omega)
    obtain ⟨d, b1, hb1, l1, u1, e1⟩ := draw_ok hb0 (by omega) (n := 1101) (by decide) (by decide)
    obtain ⟨n, rfl⟩ := Int.eq_ofNat_of_zero_le l1
    obtain ⟨bs, b2, hb2, hx, hl, e2⟩ := comp_draw (α := Box) (F := bxD) (P := BxOk) (c := 30) (n := n) (g := 3) (me := eTup (aCons (eC m__law_named (aCons (eVar 3) (aNil))) (aCons (eVar 3) (aCons (ND.e2 (mulX false) (eVar 2) (eVar 3)) (aCons (ND.e2 addX (eVar 3) (eK (.int 1))) (aCons (eK (.int 2)) (aNil))))))) (env := [some (.ref 0), some (.bl true), some (.int s), none]) (b := b1) (k := k + 5 + 1) (mi := iR1 (eC m__law_draw (aCons (eVar 0) (aCons (eK (.int 1101)) aNil)))) (b0 := b0) (vs := [3]) (by omega) (by omega) hb1 (fun r => by
        have e1' := e1 r
        have hr := rng1_nat (n := n) (st := b1 :: r) (by omega)
        generalize b0 :: r = A at *
        generalize b1 :: r = B at *
        simp only [ev_iR1, ev_eK, ev_eC, ev_aCons, ev_eVar, ev_aNil, List.getElem?_cons_zero, Res.bind_ok, e1']
        exact hr) (fun i b k hi hb hk => by
        obtain ⟨z, hz, ez⟩ := named_ok (i := i) (by omega)
        have hsi : -1100000000000000 ≤ s * i ∧ s * i ≤ 1100000000000000 := by
          have h1 : (i : Int) ≤ 1100 := by omega
          have h0 : (0 : Int) ≤ i := by omega
          constructor
          · have : -1000000000000 * (i : Int) ≤ s * i := Int.mul_le_mul_of_nonneg_right (by omega) h0
            omega
          · have : s * (i : Int) ≤ 1000000000000 * i := Int.mul_le_mul_of_nonneg_right (by omega) h0
            omega
        refine ⟨(z, i, s * i, i + 1, 2), b, hb.mono (by omega), ⟨hz, (show Sm (i : Int) from ⟨by omega, by omega⟩), (show Sm (s * i) from ⟨by omega, by omega⟩), (show Sm ((i : Int) + 1) from ⟨by omega, by omega⟩), (show Sm 2 from ⟨by omega, by omega⟩)⟩, fun r => ?_⟩
        have ez' := ez (b :: r)
        have m1 : mulI (.int s) (.int (i : Int)) (b :: r) = .ok (.int (s * i)) (b :: r) := op_mulI (by
          have h1 : s.natAbs.log2 < 60 := by
            by_cases h0 : s.natAbs = 0
            · rw [h0]; decide
            · exact (Nat.log2_lt h0).mpr (by omega)
          have h2 : (i : Int).natAbs.log2 < 60 := by
            by_cases h0 : (i : Int).natAbs = 0
            · rw [h0]; decide
            · exact (Nat.log2_lt h0).mpr (by omega)
          omega)
        generalize b :: r = A at *
        simp only [ev_wipe1, ev_wipe0, List.set_cons_succ, List.set_cons_zero, ev_eTup, ev_eC, ev_e2, ev_eK, ev_aCons, ev_eVar, ev_aNil, List.getElem?_cons_zero, List.getElem?_cons_succ, Res.bind_ok, ez', op_mulX_i, m1, op_addX_i, op_addI, List.length_cons, List.length_nil, ok_szl, Nat.zero_add, Nat.reduceAdd, Nat.reduceLeDiff, if_true]
        rfl)
    refine ⟨bs, b2, hb2.mono (by omega), ⟨hx, by omega⟩, fun r => ?_⟩
    have e0' := e0 r
    have e2' := e2 r
    have f : fin (b :: r) (.lst (bs.map bxD)) (b2 :: r) = .ok (.lst (bs.map bxD)) (b2 :: r) := fin_bag0 hb2.pd (pds_bx bs)
    show fnEnd false (b :: r) (y__law_boxes [some (.ref 0), some (.bl true), none, none] (b :: r)) = _
    generalize b :: r = A at *
    generalize b0 :: r = A0 at *
    generalize b2 :: r = B at *
    simp only [y__law_boxes, ev_sSeq, ev_sIf, ev_tru, ev_eVar, List.getElem?_cons_succ, List.getElem?_cons_zero, Res.bind_ok, tru_bl, toS_ok, if_true, ev_sSet, ev_eC, ev_aCons, ev_aNil, e0', List.set_cons_succ, List.set_cons_zero, seq_nx, ev_sRet, e2', seq_rt, end_rt_f, f]
/-! ### the law -/
def dueL (bs : List Box) : List (List Str) := [bare bs, numL (bare bs), titled bs, numL (titled bs)]
def klsL : List String := ["Listing", "NumberedListing", "TitledListing", "FullListing"]
noncomputable abbrev mtL : MT := [("Listing", "rows", mL_Listing_rows), ("NumberedListing", "rows", mL_NumberedListing_rows), ("TitledListing", "rows", mL_TitledListing_rows), ("FullListing", "rows", mL_FullListing_rows)]
theorem rows_ok {bs : List Box} (h : BsOk bs) {i : Nat} (hi : i < 4) {st : Sto} : ∃ (k : String) (zs : List Str), k = klsL.getD i "" ∧ Kls k ∧ zs.length ≤ 2000 ∧ (∀ s, ixD (.lst (objL bs)) (.int (i : Int)) s = .ok (inL k bs) s) ∧ (∀ s, ixD (.lst ((dueL bs).map fun zs => .lst (stL zs))) (.int (i : Int)) s = .ok (.lst (stL zs)) s) ∧ (∀ s, ixD (.lst (klsL.map fun k => .lst (kindL k))) (.int (i : Int)) s = .ok (.lst (kindL k)) s) ∧
    ∀ (o : M D) (env : ND.Env), o env st = .ok (inL k bs) st → eMeth mtL "rows" o aNil env st = .ok (.ref st.length) (st ++ [.lst (stL zs)]) := by
  have nl : ∀ zs : List Str, (numL zs).length = zs.length := fun zs => by unfold numL; rw [List.length_map, List.length_range]
  have mm : ∀ (k : String) (F : DF) (zs : List Str), mfind mtL k "rows" = some F → F [inL k bs] st = .ok (.ref st.length) (st ++ [.lst (stL zs)]) → ∀ (o : M D) (env : ND.Env), o env st = .ok (inL k bs) st → eMeth mtL "rows" o aNil env st = .ok (.ref st.length) (st ++ [.lst (stL zs)]) := by
    intro k F zs hf e o env ho
    rw [ev_eMeth, ho, Res.bind_ok]
    unfold inL at e ⊢
    simp only [ins_ins, hf]
    rw [if_neg (by decide), ev_aNil, Res.bind_ok]
    exact e
  match i, hi with
  | 0, _ => exact ⟨_, bare bs, rfl, .inl rfl, bare_l h, fun s => rfl, fun s => rfl, fun s => rfl, mm _ _ _ rfl (listL (.inl rfl) h)⟩
  | 1, _ => exact ⟨_, numL (bare bs), rfl, .inr (.inl rfl), by rw [nl]; exact bare_l h, fun s => rfl, fun s => rfl, fun s => rfl, mm _ _ _ rfl (nlL h)⟩
  | 2, _ => exact ⟨_, titled bs, rfl, .inr (.inr (.inl rfl)), tit_l h, fun s => rfl, fun s => rfl, fun s => rfl, mm _ _ _ rfl (titL h)⟩
  | 3, _ => exact ⟨_, numL (titled bs), rfl, .inr (.inr (.inr rfl)), by rw [nl]; exact tit_l h, fun s => rfl, fun s => rfl, fun s => rfl, mm _ _ _ rfl (fullL h)⟩
theorem kind_eq {k : String} (hk : Kls k) {st : Sto} : eqD true (.lst (kindL k)) (.lst (kindL k)) st = .ok (.bl false) st := by
  have h := eqD_self (neg := true) (x := .lst (kindL k)) (st := st) (by rcases hk with rfl | rfl | rfl | rfl <;> rfl) (by rcases hk with rfl | rfl | rfl | rfl <;> decide)
  exact h
section
variable {ns : List Int} {bs cs : List Box}
abbrev EL (ns : List Int) (bs cs : List Box) (o9 o10 o11 : Option D) : ND.Env := [some (.ext ns), some (.ref 0), some (.lst (bs.map bxD)), some (.lst (cs.map bxD)), some (.lst ((dueL bs).map fun zs => .lst (stL zs))), some (.lst ((dueL cs).map fun zs => .lst (stL zs))), some (.lst (objL bs)), some (.lst (objL cs)), some (.lst (klsL.map fun k => .lst (kindL k))), o9, o10, o11]
theorem turn_ok (hbs : BsOk bs) (hcs : BsOk cs) {i : Nat} (hi : i < 4) {o9 o11 : Option D} {st : Sto} : ∃ o s, l2_law (EL ns bs cs o9 (some (.int i)) o11) st = .nx (EL ns bs cs o9 (some (.int i)) o) s := by
  obtain ⟨k1, zs, ek1, hk1, hz1, a1, a2, a3, a4⟩ := rows_ok hbs hi (st := st)
  generalize hA : st ++ [SO.lst (stL zs)] = A at *
  have gA : A[st.length]? = some (.lst (stL zs)) := by rw [← hA]; exact get_last
  have t1 := told_ok gA hz1
  have kk1 := kinds_ok hk1 (bs := bs) (st := A)
  have ke1 := kind_eq hk1 (st := A)
  have r1 := rev_ok gA
  generalize hB : A.set st.length (.lst (stL zs).reverse) = B at *
  have lA : st.length < A.length := (List.getElem?_eq_some_iff.mp gA).1
  have gB : B[st.length]? = some (.lst (stL zs).reverse) := by rw [← hB]; exact List.getElem?_set_self lA
  have p1 := app_ok (y := .str "") gB (by rw [List.length_reverse, List.length_map]; omega)
  have q1 := sq_r gA
  have q2 := sq_r gB
  generalize hC : B.set st.length (.lst ((stL zs).reverse ++ [.str ""])) = C at *
  obtain ⟨k2, ys, ek2, hk2, hz2, b1, b2, b3, b4⟩ := rows_ok hcs hi (st := C)
  obtain rfl : k2 = k1 := ek2.trans ek1.symm
  generalize hE : C ++ [SO.lst (stL ys)] = E at *
  have gE : E[C.length]? = some (.lst (stL ys)) := by rw [← hE]; exact get_last
  have t2 := told_ok gE hz2
  have kk2 := kinds_ok hk2 (bs := cs) (st := E)
  have ke2 := kind_eq hk2 (st := E)
  have c2 := clr_ok gE
  have q3 := sq_r gE
  have m1 := a4 (ND.e2 ixD (eVar 6) (eVar 10)) (EL ns bs cs o9 (some (.int i)) o11) (by simp only [EL, ev_e2, ev_eVar, List.getElem?_cons_succ, List.getElem?_cons_zero, Res.bind_ok, a1])
  have m2 := b4 (ND.e2 ixD (eVar 7) (eVar 10)) (EL ns bs cs o9 (some (.int i)) (some (.ref st.length))) (by simp only [EL, ev_e2, ev_eVar, List.getElem?_cons_succ, List.getElem?_cons_zero, Res.bind_ok, b1])
  refine ⟨some (.ref C.length), E.set C.length (.lst []), ?_⟩
  simp only [l2_law, l2_law_1, l2_law_2, l2_law_3, l2_law_4, l2_law_5, l2_law_6, ev_sSeq, ev_sSet, m1, m2, EL, toS_ok, seq_nx, List.set_cons_succ, List.set_cons_zero, ev_sIf, ev_bOr, ev_bNot, ev_tru, ev_toB, ev_e2, ev_eC, ev_aCons, ev_aNil, ev_eVar, ev_eK, ev_sDrop, ev_eBM, ev_sNil, List.getElem?_cons_succ, List.getElem?_cons_zero, Res.bind_ok, a1, a2, a3, b1, b2, b3, t1, t2, tru_bl, Bool.not_true, Bool.false_eq_true, if_false, if_true, kk1, kk2, ke1, ke2, r1, p1, q1, q2, q3, c2]
theorem loop1_ok (hbs : BsOk bs) (hcs : BsOk cs) {o9 o10 o11 : Option D} {st : Sto} : ∃ o p s, l1_law (EL ns bs cs o9 o10 o11) st = .nx (EL ns bs cs o9 o p) s := by
  obtain ⟨e, s, ef, o, p, q⟩ := for_allF (mi := iR1 (eK (.int 4))) (g := gNm 10) (body := l2_law) (env := EL ns bs cs o9 o10 o11) (st := st) (s1 := st) (ds := rangeD 0 4) (range_pure (n := 4) (by decide) rfl) (fun i env s => ∃ o p, env = EL ns bs cs o9 o p) ⟨_, _, rfl⟩ (fun i d env s hd ⟨o, p, q⟩ => by
    subst q
    obtain ⟨rfl, hi⟩ := range_get hd
    rw [Int.zero_add]
    obtain ⟨o2, s2, e2⟩ := turn_ok (ns := ns) hbs hcs hi (o9 := o9) (o11 := p) (st := s)
    exact ⟨_, rfl, _, _, .inl e2, _, _, rfl⟩)
  subst q
  exact ⟨o, p, s, ef⟩
theorem loop0_ok (hbs : BsOk bs) (hcs : BsOk cs) {st : Sto} : ∃ s, y_law_10 (EL ns bs cs none none none) st = .rt (.bl true) s := by
  obtain ⟨e, s, ef, o9, o, p, q⟩ := for_allF (mi := iR1 (eK (.int 2))) (g := gNm 9) (body := l1_law) (env := EL ns bs cs none none none) (st := st) (s1 := st) (ds := rangeD 0 2) (range_pure (n := 2) (by decide) rfl) (fun i env s => ∃ o9 o p, env = EL ns bs cs o9 o p) ⟨_, _, _, rfl⟩ (fun i d env s hd ⟨o9, o, p, q⟩ => by
    subst q
    obtain ⟨rfl, hi⟩ := range_get hd
    obtain ⟨o2, p2, s2, e2⟩ := loop1_ok (ns := ns) hbs hcs (o9 := some (.int (0 + (i : Int)))) (o10 := o) (o11 := p) (st := s)
    exact ⟨_, rfl, _, _, .inl e2, _, _, _, rfl⟩)
  subst q
  refine ⟨s, ?_⟩
  unfold y_law_10
  rw [ev_sSeq, ef, seq_nx]
  rfl
end
theorem due_l (bs : List Box) : (dueL bs).map (fun zs => D.lst (stL zs)) = [.lst (stL (bare bs)), .lst (stL (numL (bare bs))), .lst (stL (titled bs)), .lst (stL (numL (titled bs)))] := rfl
theorem law_true (ns : List Int) (h : ns.length ≤ 63) : ∃ st, m_law [.ext ns] [] = .ok (.bl true) st := by
  obtain ⟨b0, hb0, e0⟩ := bag_ok ns h
  obtain ⟨d, b1, hb1, l1, u1, e1⟩ := draw_ok hb0 (by omega) (n := 32) (by decide) (by decide)
  obtain ⟨bs, b2, hb2, hbs, e2⟩ := boxes_ok hb1 (by omega) (decide (d = 7))
  obtain ⟨cs, b3, hb3, hcs, e3⟩ := boxes_ok hb2 (by omega) false
  have e1' := e1 []
  have e2' := e2 []
  have e3' := e3 []
  have u2 := due_ok hbs (st := [b3])
  have u3 := due_ok hcs (st := [b3])
  rw [← due_l] at u2 u3
  have v2 := made_ok hbs (st := [b3])
  have v3 := made_ok hcs (st := [b3])
  obtain ⟨s, ef⟩ := loop0_ok (ns := ns) hbs hcs (st := [b3])
  refine ⟨[], ?_⟩
  show fnEnd false [] (y_law [some (.ext ns), none, none, none, none, none, none, none, none, none, none, none] []) = _
  have s1 : y_law [some (.ext ns), none, none, none, none, none, none, none, none, none, none, none] [] = .rt (.bl true) s := by
    rw [← ef]
    generalize hA : [b0] = A at *
    generalize hB : [b1] = B at *
    generalize hC : [b2] = C at *
    generalize hE : [b3] = E at *
    have hz : ∀ xs ys : List D, xs.length + ys.length ≤ 100 → addL (.lst xs) (.lst ys) E = .ok (.lst (xs ++ ys)) E := fun xs ys hl => by
      show (if Ok (xs.length + ys.length ≤ sizeLine) then Res.ok (D.lst (xs ++ ys)) E else .bad) = _
      rw [if_pos (show Ok _ from by show xs.length + ys.length ≤ sizeLine; rw [sizeLine_eq]; omega)]
    have hk := hz [.lst (kindL "Listing"), .lst (kindL "NumberedListing")] [.lst (kindL "TitledListing"), .lst (kindL "FullListing")] (by simp)
    have k1 : kindL "Listing" = [.bl true, .bl false, .bl false, .bl false] := rfl
    have k2 : kindL "NumberedListing" = [.bl true, .bl true, .bl false, .bl false] := rfl
    have k3 : kindL "TitledListing" = [.bl true, .bl false, .bl true, .bl false] := rfl
    have k4 : kindL "FullListing" = [.bl true, .bl true, .bl true, .bl true] := rfl
    rw [k1, k2, k3, k4] at hk
    simp only [y_law, y_law_1, y_law_2, y_law_3, y_law_4, y_law_5, y_law_6, y_law_7, y_law_8, y_law_9, ev_sSeq, ev_sNil, ev_sIf, ev_sSet, ev_sDrop, ev_sRet, ev_sRetN, ev_sSetIx, ev_sAug, ev_bAnd, ev_bOr, ev_bNot, ev_bYes, ev_tru, ev_toB, ev_e2, ev_eVar, ev_eK, ev_eC, ev_eC0, ev_aCons, ev_aNil, ev_eIf, ev_eAnd, ev_eOr, ev_eNot, ev_eSl, ev_oSome, ev_oNone, ev_eFld, ev_eMeth, ev_eBM, ev_iVal, ev_iR1, ev_iR2, ev_gNm, ev_mkL_f, ev_mkL_t, ev_wipe0, ev_wipe1, ev_eLst0, ev_eTup0, List.getElem?_cons_succ, List.getElem?_cons_zero, List.set_cons_succ, List.set_cons_zero, Res.bind_ok, toS_ok, seq_nx, seq_rt, seq_bk, seq_ct, tru_bl, Bool.not_true, Bool.not_false, Bool.false_eq_true, Bool.true_eq_false, if_true, if_false, ND.ix_tup, ix_lst, at_0, at_1, at_2, at_3, at_4, ND.len_tup, ND.len_lst, eq_int, eq_bl, op_addI, op_subI, op_ltI, op_leI, op_gtI, op_geI, op_addX_i, op_addX_s, op_addX_l, op_addX_t, op_mulX_i, op_mulX_l, op_isN_non, op_isN_tup, op_isN_lst, op_isN_ins, op_isB, sl_lst, int_int, int_bl, i1_int, i2f_int, src_tup, src_lst, negI, decide_true, decide_false, e0, e1', e2', e3', u2, u3, v2, v3, ev_eLst, List.length_cons, List.length_nil, ok_szl, Nat.zero_add, Nat.reduceAdd, Nat.reduceLeDiff, hk]
    rfl
  rw [s1, end_rt_f]
  exact fin_none (r := []) (ex := s) rfl
end K83
namespace K83
open PySem PySem.Spec PyProof.Rows L2 ND
abbrev R0 : PySem.W.OpenRow := PySem.W.OpenLaw.row PySem.Challenge.rw_drawnlayers_k83_listings
abbrev hk : PySem.W.Hook := ND.hookZ 6 fa fn fs PySem.Challenge.rw_drawnlayers_k83_listings.prog.main.file (xfB xf)
def ob (s : PySem.W.SharedT) : ND.AlZ := ND.obsZ 6 fa fn fs PySem.Challenge.rw_drawnlayers_k83_listings.prog.main.file (xfB xf) (HandSHeadRun.getT s)
theorem ob_eq (s : PySem.W.SharedT) : ob s = hk.obs s.abs := ND.obsZ_eq (HandSHeadRun.getT_eq s)
abbrev lo : List PySem.Str := (["Listing", "NumberedListing", "TitledListing", "FullListing", "_numbered", "_law_bag", "_law_draw", "_law_word", "_law_figure", "_law_box", "_law_named", "_law_boxes", "_law_padded", "_law_row", "_law_numbered", "_law_due", "_law_made", "_law_told", "_law_kinds"] : List PySem.Str)
theorem run (w : World) : HandSHeadRun.RunEq R0 (PySem.W.view R0.prog [21]) hk ob 30000 lo w := by
  intro os
  kernel_rfl
theorem law_ok {P : Program} {w : World} {K : PySem.W.Frag} {mg : Str → Option Value} {base : Heap} {f : Addr} (C : HC2 P fa fn fs xf w K mg) (hf : mg ("law" : Str) = some (.ref f)) :
    ∃ fd : FuncData, (∀ (s : PySem.Shared) (v : Value), BindsTo s fd ⟨[v], []⟩ [("script", v)]) ∧ ∀ base : Heap, FnOk P w K mg base (L2.CX P w) 5 f fd ["script"] (spM K m_law) := by
  obtain ⟨fd, F⟩ := C.def_ (fn.length - 1) (d := dd_law) rfl
  have F : FunD K "law" "law" (defArgs s_law) (defBody s_law) (defScope s_law) [] [] (He.fAd K ("law", none)) fd := F
  have e : f = He.fAd K ("law", none) := by
    obtain ⟨f', hf', _⟩ := (g_law (P := P) (base := base) C).ex
    have g := C.glo iLaw rfl
    have g2 := hf.symm.trans g
    cases g2
    rfl
  subst e
  have b := FunD.bindsA (ps := ["script"]) F fun _ _ _ _ _ _ us hl => match us, hl with | [_], _ => rfl
  exact ⟨fd, fun s v => b s [v] rfl, fun base => o_law C F⟩
end K83
open PySem PySem.W PySem.Calls PyProof.Rows
theorem PySem.Challenge.cw_drawnlayers_k83_listings_holds : PySem.Challenge.rw_drawnlayers_k83_listings.Holds := by
  w_on; o_law
  refine HandSHeadRun.head_any (r := OpenLaw.row PySem.Challenge.rw_drawnlayers_k83_listings) (q := view (OpenLaw.row PySem.Challenge.rw_drawnlayers_k83_listings).prog [21]) (H := K83.hk) (ob := K83.ob) (M := 30000) (loose := K83.lo) (d := HandSHeadRun.topDef (OpenLaw.row PySem.Challenge.rw_drawnlayers_k83_listings).prog 21) (kwd := []) K83.ob_eq
    (by kernel_rfl) (fun s => by kernel_rfl) K83.run (by kernel_rfl) (by kernel_rfl) (by kernel_rfl) (by rfl) (by first | assumption | decide +kernel) (by decide +kernel) ⟨rfl, rfl, rfl, rfl, rfl, by decide +kernel⟩ ?hw ?hc
  case hw => w_witness2
  case hc =>
    refine ND.walk_ofX (l := PySem.Challenge.rw_drawnlayers_k83_listings) (n := 63) (k := 5) (x := "script") (CX := fun w => L2.CX (PySem.Challenge.rw_drawnlayers_k83_listings).prog w) rfl (by decide) (by kernel_rfl) ⟨rfl, by decide, by decide⟩ ?F ?hx
    case hx =>
      rintro w H s e s' ⟨a, B, H', cls, d, _, _, _, _, _, _, _, z⟩
      exact z
    intro w mg fa h Y G hmg0
    obtain ⟨K, KX, c⟩ := Y
    have hmg : mg ("law" : PySem.Str) = some (.ref fa) := by
      have e : (HandSHeadRun.topDef (OpenLaw.row PySem.Challenge.rw_drawnlayers_k83_listings).prog 21).name = ("law" : PySem.Str) := by kernel_rfl
      rw [← e]
      exact hmg0
    obtain ⟨fd, hb, hF⟩ := K83.law_ok (P := (PySem.Challenge.rw_drawnlayers_k83_listings).prog) (base := h) ⟨⟨h, KX, G, c⟩, by kernel_rfl⟩ hmg
    refine ⟨K, fd, ND.spM K K83.m_law, KX, hb, fun H a ns hl _ hS => ?_, fun base _ _ => hF base⟩
    obtain ⟨st, e⟩ := K83.law_true ns hl
    exact ND.sp_of hS e
