import PyProof.Rows.All
import Wide.All
import OpenK.AllK
import Wide.FinOn
import HandS.ForMost
import HandS.Exc
import HandS.TryOnly
import HandS.ExcOwn
import HandS.CallSlots
import HandS.Defaults
import HandS.Flow
import HandS.HeadHook1
import HandS.Wide
import HandS.TupAny
import HandS.IsInst
import KE.DataEq
import HandS.SortInts
import HandS.FStr
import HandS.More
import HandS.Star
import KE.KOpsOwn
import HandS.TupLe
import HandS.Style
import HandS.TupMul
import OpenK.KMeth
import HandS.Dict
import KE.GoesEnum
import HandS.Iter
import KE.KNest
import KE.KNestM
import HandS.HeadHook2
import HandS.HeadHook3
import HandS.HeadHook4
import KE.KStateDown
import HandS.Ends
import HandS.Head0
import HandS.Head1
import HandS.Head2
import HandS.HeadEnd
import HandS.SetFor
import HandS.Strs
import PySem.Challenge.RW_drawnlayers_k75_whole_fewest_bends
set_option Elab.async false
set_option linter.all false
set_option maxRecDepth 100000
set_option maxHeartbeats 0
namespace ND
open PySem L2

/-- a guard: what is asked is never computed -/
def Ok (p : Prop) : Prop := p
noncomputable instance {p : Prop} : Decidable (Ok p) := Classical.propDecidable p
theorem ok_of {p : Prop} (h : decide (Ok p) = true) : p := of_decide_eq_true (p := Ok p) h
theorem ok_mk {p : Prop} (h : p) : decide (Ok p) = true := decide_eq_true (p := Ok p) h
/-- data: pure values; ref n: the n-th object of the store -/
inductive D where
  | non | bl (b : Bool) | int (i : Int) | str (s : Str)
  | tup (xs : List D) | lst (xs : List D) | ref (n : Nat)
  | ins (k : String) (fs : List String) (xs : List D)
  | dK (ks : List Key) (xs : List D) | dT (ks : List (List Key)) (xs : List D)
  | glo (x : String) | ty (n : String) | ext (ns : List Int)
  | exc (k : String) (fs : List String) (xs : List D)
instance : Inhabited D := ⟨.non⟩
/-- live objects -/
inductive SO where
  | lst (xs : List D) | ins (k : String) (fs : List String) (xs : List D) | dK (ks : List Key) (xs : List D) | dT (ks : List (List Key)) (xs : List D)
abbrev Sto := List SO
abbrev Env := List (Option D)
inductive Res (α : Type) where
  | ok (a : α) (st : Sto) | exc (k : String) (fs : List String) (xs : List D) (st : Sto) | bad
def Res.bind {α β : Type} (r : Res α) (f : α → Sto → Res β) : Res β := match r with
  | .ok a st => f a st
  | .exc k fs xs st => .exc k fs xs st
  | .bad => .bad
@[simp] theorem Res.bind_ok {α β : Type} (a : α) (st : Sto) (f : α → Sto → Res β) : (Res.ok a st).bind f = f a st := rfl
@[simp] theorem Res.bind_exc {α β : Type} (k : String) (fs : List String) (xs : List D) (st : Sto) (f : α → Sto → Res β) : (Res.exc k fs xs st : Res α).bind f = .exc k fs xs st := rfl
@[simp] theorem Res.bind_bad {α β : Type} (f : α → Sto → Res β) : (Res.bad : Res α).bind f = .bad := rfl
inductive SRes where
  | nx (e : Env) (st : Sto) | rt (d : D) (st : Sto) | bk (e : Env) (st : Sto) | ct (e : Env) (st : Sto)
  | exc (k : String) (fs : List String) (xs : List D) (e : Env) (st : Sto) | bad

/-! ### worlds -/
structure Wd where
  H : Hp
  mu : List Addr
  xi : List Addr
def Wd.fr (w : Wd) : Hp := fun a => if a ∈ w.mu ∨ a ∈ w.xi then none else w.H a
theorem Wd.fr_some {w : Wd} {a : Addr} {o : HO} : w.fr a = some o ↔ (a ∉ w.mu ∧ a ∉ w.xi ∧ w.H a = some o) := by
  unfold Wd.fr
  by_cases h : a ∈ w.mu ∨ a ∈ w.xi
  · rw [if_pos h]
    constructor
    · intro e
      cases e
    · rintro ⟨h1, h2, _⟩
      rcases h with h | h
      · exact absurd h h1
      · exact absurd h h2
  · rw [if_neg h]
    constructor
    · intro e
      exact ⟨fun q => h (.inl q), fun q => h (.inr q), e⟩
    · rintro ⟨_, _, e⟩
      exact e
/-- what is frozen stays, the store's addresses stay -/
structure Wd.Sub (w w' : Wd) : Prop where
  fr : ∀ a o, w.fr a = some o → w'.fr a = some o
  mu : w.mu <+: w'.mu
theorem Wd.Sub.refl (w : Wd) : w.Sub w := ⟨fun _ _ h => h, List.prefix_rfl⟩
theorem Wd.Sub.trans {a b c : Wd} (h : a.Sub b) (h' : b.Sub c) : a.Sub c := ⟨fun x o e => h'.fr x o (h.fr x o e), h.mu.trans h'.mu⟩
/-- .. and what is hidden is as it was -/
structure Wd.Le (w w' : Wd) : Prop where
  sub : w.Sub w'
  xi : w'.xi = w.xi
  hid : ∀ a ∈ w.xi, w'.H a = w.H a
theorem Wd.Le.refl (w : Wd) : w.Le w := ⟨.refl w, rfl, fun _ _ => rfl⟩
theorem Wd.Le.trans {a b c : Wd} (h : a.Le b) (h' : b.Le c) : a.Le c := ⟨h.sub.trans h'.sub, h'.xi.trans h.xi, fun x hx => (h'.hid x (by rw [h.xi]; exact hx)).trans (h.hid x hx)⟩

/-! ### names -/
/-- the global of that name -/
def gaS (K : PySem.W.Frag) (x : String) : Addr := He.ga K (Str.ofString x)
theorem ofString_inj {a b : String} (h : Str.ofString a = Str.ofString b) : a = b := by
  rw [Str.ofString_eq_toList, Str.ofString_eq_toList] at h
  have h2 : (a.toList.map Char.toNat).toArray = (b.toList.map Char.toNat).toArray := by injection h
  have h3 : a.toList.map Char.toNat = b.toList.map Char.toNat := by simpa using h2
  have h4 : a.toList = b.toList := by
    refine List.map_inj_right (f := Char.toNat) (fun x y e => ?_) |>.mp h3
    exact Char.toNat_inj.mp e
  exact String.toList_inj.mp h4
/-! ### what a datum stands for -/
theorem ex_rd {H H' : Hp} {a : Addr} {u : HO} (e : ∀ a o, H a = some o → H' a = some o) (h : Rd H a u) : Rd H' a u := by
  rcases h with h | ⟨o, h⟩
  · exact Or.inl (e a _ h)
  · exact Or.inr ⟨o, e a _ h⟩
theorem ex_l {K : PySem.W.Frag} {H H' : Hp} {a : Addr} {xs : List V} (e : ∀ a o, H a = some o → H' a = some o) (h : SqL K H a xs) : SqL K H' a xs := by
  rcases h with h | h
  · exact Or.inl (ex_rd e h)
  · exact Or.inr h
theorem ex_t {K : PySem.W.Frag} {H H' : Hp} {a : Addr} {xs : List V} (e : ∀ a o, H a = some o → H' a = some o) (h : SqT K H a xs) : SqT K H' a xs := by
  rcases h with h | h
  · exact Or.inl (ex_rd e h)
  · exact Or.inr h

section
variable (K : PySem.W.Frag)
mutual
def Rel (w : Wd) : D → V → Prop
  | .non, v => v = .non
  | .bl b, v => v = .bl b
  | .int i, v => v = .int i
  | .str s, v => v = .str s
  | .tup xs, v => ∃ a vs, v = .ref a ∧ w.fr a = some (.tup vs) ∧ Rels w xs vs
  | .lst xs, v => ∃ a vs, v = .ref a ∧ w.fr a = some (.lst vs) ∧ Rels w xs vs
  | .ref n, v => ∃ a, v = .ref a ∧ w.mu[n]? = some a
  | .ins k fs xs, v => ∃ a dx gs, v = .ref a ∧ w.fr a = some (.ins (gaS K k) dx gs) ∧ gs.map (·.1) = fs.map Str.ofString ∧ Rels w xs (gs.map (·.2))
  | .dK ks xs, v => ∃ a kvs, v = .ref a ∧ w.fr a = some (.dK kvs) ∧ kvs.map (·.1) = ks ∧ Rels w xs (kvs.map (·.2))
  | .dT ks xs, v => ∃ a kvs, v = .ref a ∧ w.fr a = some (.dT kvs) ∧ kvs.map (·.1) = ks ∧ Rels w xs (kvs.map (·.2))
  | .glo x, v => v = .ref (gaS K x)
  | .ty n, v => v = .ty n
  | .ext ns, v => ∃ a, v = .ref a ∧ SqL K w.fr a (ns.map V.int)
  | .exc _ _ _, _ => True
def Rels (w : Wd) : List D → List V → Prop
  | [], vs => vs = []
  | x :: xs, vs => ∃ v r, vs = v :: r ∧ Rel w x v ∧ Rels w xs r
end
end
section
variable {K : PySem.W.Frag}
mutual
theorem Rel.sub {w w' : Wd} (h : w.Sub w') : ∀ (d : D) (v : V), Rel K w d v → Rel K w' d v
  | .non, _, r => r
  | .bl _, _, r => r
  | .int _, _, r => r
  | .str _, _, r => r
  | .tup xs, _, r => by
    unfold Rel at r ⊢
    obtain ⟨a, vs, e, q, s⟩ := r
    exact ⟨a, vs, e, h.fr _ _ q, Rels.sub h xs vs s⟩
  | .lst xs, _, r => by
    unfold Rel at r ⊢
    obtain ⟨a, vs, e, q, s⟩ := r
    exact ⟨a, vs, e, h.fr _ _ q, Rels.sub h xs vs s⟩
  | .ref n, _, r => by
    unfold Rel at r ⊢
    obtain ⟨a, e, q⟩ := r
    obtain ⟨t, ht⟩ := h.mu
    refine ⟨a, e, ?_⟩
    rw [← ht, List.getElem?_append_left (List.getElem?_eq_some_iff.mp q).1]
    exact q
  | .ins k fs xs, _, r => by
    unfold Rel at r ⊢
    obtain ⟨a, dx, gs, e, q, s, t⟩ := r
    exact ⟨a, dx, gs, e, h.fr _ _ q, s, Rels.sub h xs _ t⟩
  | .dK ks xs, _, r => by
    unfold Rel at r ⊢
    obtain ⟨a, gs, e, q, s, t⟩ := r
    exact ⟨a, gs, e, h.fr _ _ q, s, Rels.sub h xs _ t⟩
  | .dT ks xs, _, r => by
    unfold Rel at r ⊢
    obtain ⟨a, gs, e, q, s, t⟩ := r
    exact ⟨a, gs, e, h.fr _ _ q, s, Rels.sub h xs _ t⟩
  | .glo _, _, r => r
  | .ext _, _, r => by
    unfold Rel at r ⊢
    obtain ⟨a, e, q⟩ := r
    exact ⟨a, e, ex_l h.fr q⟩
  | .ty _, _, r => r
  | .exc _ _ _, _, r => r
theorem Rels.sub {w w' : Wd} (h : w.Sub w') : ∀ (d : List D) (v : List V), Rels K w d v → Rels K w' d v
  | [], _, r => r
  | x :: xs, _, r => by
    unfold Rels at r ⊢
    obtain ⟨v, rr, e, q, s⟩ := r
    exact ⟨v, rr, e, Rel.sub h x v q, Rels.sub h xs rr s⟩
end
theorem Rel.le {w w' : Wd} {d : D} {v : V} (r : Rel K w d v) (h : w.Le w') : Rel K w' d v := Rel.sub h.sub d v r
theorem Rels.le {w w' : Wd} {d : List D} {v : List V} (r : Rels K w d v) (h : w.Le w') : Rels K w' d v := Rels.sub h.sub d v r
theorem Rels.length {w : Wd} : ∀ {d : List D} {v : List V}, Rels K w d v → d.length = v.length
  | [], _, r => by
    unfold Rels at r
    subst r
    rfl
  | x :: xs, _, r => by
    unfold Rels at r
    obtain ⟨v, rr, rfl, q, s⟩ := r
    show xs.length + 1 = rr.length + 1
    rw [Rels.length s]
theorem Rels.nil {w : Wd} : Rels K w [] [] := by
  unfold Rels
  rfl
theorem Rels.cons {w : Wd} {x : D} {v : V} {xs : List D} {vs : List V} (h : Rel K w x v) (t : Rels K w xs vs) : Rels K w (x :: xs) (v :: vs) := by
  unfold Rels
  exact ⟨v, vs, rfl, h, t⟩
theorem Rels.inv {w : Wd} {x : D} {xs : List D} {vs : List V} (h : Rels K w (x :: xs) vs) : ∃ v r, vs = v :: r ∧ Rel K w x v ∧ Rels K w xs r := by
  unfold Rels at h
  exact h
theorem Rels.get {w : Wd} : ∀ {d : List D} {v : List V} {i : Nat} {x : D}, Rels K w d v → d[i]? = some x → ∃ u, v[i]? = some u ∧ Rel K w x u
  | [], _, _, _, _, e => by simp at e
  | x :: xs, _, 0, y, r, e => by
    obtain ⟨v, rr, rfl, q, s⟩ := r.inv
    simp at e
    subst e
    exact ⟨v, rfl, q⟩
  | x :: xs, _, i + 1, y, r, e => by
    obtain ⟨v, rr, rfl, q, s⟩ := r.inv
    simpa using Rels.get (i := i) s (by simpa using e)
theorem Rels.append {w : Wd} : ∀ {d d' : List D} {v v' : List V}, Rels K w d v → Rels K w d' v' → Rels K w (d ++ d') (v ++ v')
  | [], _, _, _, r, r' => by
    unfold Rels at r
    subst r
    exact r'
  | x :: xs, _, _, _, r, r' => by
    obtain ⟨v, rr, rfl, q, s⟩ := r.inv
    exact .cons q (Rels.append s r')
theorem Rels.take {w : Wd} : ∀ {d : List D} {v : List V} (n : Nat), Rels K w d v → Rels K w (d.take n) (v.take n)
  | _, _, 0, _ => by
    rw [List.take_zero, List.take_zero]
    exact .nil
  | [], _, n + 1, r => by
    unfold Rels at r
    subst r
    exact .nil
  | x :: xs, _, n + 1, r => by
    obtain ⟨v, rr, rfl, q, s⟩ := r.inv
    exact .cons q (Rels.take n s)
theorem Rels.drop {w : Wd} : ∀ {d : List D} {v : List V} (n : Nat), Rels K w d v → Rels K w (d.drop n) (v.drop n)
  | _, _, 0, r => r
  | [], _, n + 1, r => by
    unfold Rels at r
    subst r
    exact .nil
  | x :: xs, _, n + 1, r => by
    obtain ⟨v, rr, rfl, q, s⟩ := r.inv
    exact Rels.drop n s
theorem Rels.set {w : Wd} {y : D} {u : V} (h : Rel K w y u) : ∀ {d : List D} {v : List V} (n : Nat), Rels K w d v → Rels K w (d.set n y) (v.set n u)
  | [], _, n, r => by
    unfold Rels at r
    subst r
    exact .nil
  | x :: xs, _, 0, r => by
    obtain ⟨v, rr, rfl, q, s⟩ := r.inv
    exact .cons h s
  | x :: xs, _, n + 1, r => by
    obtain ⟨v, rr, rfl, q, s⟩ := r.inv
    exact .cons q (Rels.set h n s)
theorem Rels.eraseIdx {w : Wd} : ∀ {d : List D} {v : List V} (n : Nat), Rels K w d v → Rels K w (d.eraseIdx n) (v.eraseIdx n)
  | [], _, n, r => by
    unfold Rels at r
    subst r
    exact .nil
  | x :: xs, _, 0, r => by
    obtain ⟨v, rr, rfl, q, s⟩ := r.inv
    exact s
  | x :: xs, _, n + 1, r => by
    obtain ⟨v, rr, rfl, q, s⟩ := r.inv
    exact .cons q (Rels.eraseIdx n s)
theorem Rels.reverse {w : Wd} : ∀ {d : List D} {v : List V}, Rels K w d v → Rels K w d.reverse v.reverse
  | [], _, r => by
    unfold Rels at r
    subst r
    exact .nil
  | x :: xs, _, r => by
    obtain ⟨v, rr, rfl, q, s⟩ := r.inv
    rw [List.reverse_cons, List.reverse_cons]
    exact (Rels.reverse s).append (.cons q .nil)
theorem Rels.ints {w : Wd} : ∀ {ns : List Int} {v : List V}, Rels K w (ns.map D.int) v → v = ns.map V.int
  | [], _, r => by
    unfold Rels at r
    exact r
  | x :: xs, _, r => by
    obtain ⟨v, rr, rfl, q, s⟩ := Rels.inv (x := D.int x) r
    unfold Rel at q
    subst q
    rw [Rels.ints s]
    rfl
theorem Rels.ofInts {w : Wd} : ∀ (ns : List Int), Rels K w (ns.map D.int) (ns.map V.int)
  | [] => .nil
  | x :: xs => .cons (by unfold Rel; rfl) (Rels.ofInts xs)

/-! ### the store -/
def RelO (K : PySem.W.Frag) (w : Wd) : SO → HO → Prop
  | .lst xs, h => ∃ vs, h = .lst vs ∧ Rels K w xs vs
  | .ins k fs xs, h => ∃ dx gs, h = .ins (gaS K k) dx gs ∧ gs.map (·.1) = fs.map Str.ofString ∧ Rels K w xs (gs.map (·.2))
  | .dK ks xs, h => ∃ kvs, h = .dK kvs ∧ kvs.map (·.1) = ks ∧ Rels K w xs (kvs.map (·.2))
  | .dT ks xs, h => ∃ kvs, h = .dT kvs ∧ kvs.map (·.1) = ks ∧ Rels K w xs (kvs.map (·.2))
theorem RelO.sub {w w' : Wd} (h : w.Sub w') : ∀ {o : SO} {u : HO}, RelO K w o u → RelO K w' o u
  | .lst xs, _, ⟨vs, e, r⟩ => ⟨vs, e, Rels.sub h _ _ r⟩
  | .ins k fs xs, _, ⟨dx, gs, e, f, r⟩ => ⟨dx, gs, e, f, Rels.sub h _ _ r⟩
  | .dK ks xs, _, ⟨gs, e, f, r⟩ => ⟨gs, e, f, Rels.sub h _ _ r⟩
  | .dT ks xs, _, ⟨gs, e, f, r⟩ => ⟨gs, e, f, Rels.sub h _ _ r⟩
structure Corr (K : PySem.W.Frag) (w : Wd) (st : Sto) : Prop where
  nd : w.mu.Nodup
  len : st.length = w.mu.length
  apart : ∀ a ∈ w.mu, a ∉ w.xi
  hid : ∀ a ∈ w.xi, ∃ u, w.H a = some u
  obj : ∀ (n : Nat) (a : Addr) (o : SO), w.mu[n]? = some a → st[n]? = some o → ∃ u, w.H a = some u ∧ RelO K w o u
theorem Corr.here {w : Wd} {st : Sto} (c : Corr K w st) {a : Addr} (h : a ∈ w.mu) : ∃ u, w.H a = some u := by
  obtain ⟨n, hn⟩ := List.getElem?_of_mem h
  have hl : n < st.length := by
    rw [c.len]
    exact (List.getElem?_eq_some_iff.mp hn).1
  obtain ⟨u, e, _⟩ := c.obj n a st[n] hn (List.getElem?_eq_getElem hl)
  exact ⟨u, e⟩
/-- a new object, frozen from the start -/
theorem Corr.new {w : Wd} {st : Sto} (c : Corr K w st) {p : Addr} (o : HO) (hp : w.H p = none) :
    let w' : Wd := ⟨upd w.H p o, w.mu, w.xi⟩
    w.Le w' ∧ Corr K w' st ∧ w'.fr p = some o := by
  have pm : p ∉ w.mu := fun h => by
    obtain ⟨u, e⟩ := c.here h
    rw [hp] at e
    cases e
  have px : p ∉ w.xi := fun h => by
    obtain ⟨u, e⟩ := c.hid p h
    rw [hp] at e
    cases e
  have S : w.Sub ⟨upd w.H p o, w.mu, w.xi⟩ := ⟨fun a u h => by
    obtain ⟨h1, h2, h3⟩ := Wd.fr_some.mp h
    exact Wd.fr_some.mpr ⟨h1, h2, by
      show upd w.H p o a = some u
      rw [upd_ne (fun e => by rw [e, hp] at h3; cases h3)]
      exact h3⟩, List.prefix_rfl⟩
  refine ⟨⟨S, rfl, fun a ha => ?_⟩, ⟨c.nd, c.len, c.apart, fun a ha => ?_, fun n a u h1 h2 => ?_⟩, ?_⟩
  · show upd w.H p o a = w.H a
    exact upd_ne fun e => px (by rw [← e]; exact ha)
  · obtain ⟨u, e⟩ := c.hid a ha
    refine ⟨u, ?_⟩
    show upd w.H p o a = some u
    rw [upd_ne fun q => px (by rw [← q]; exact ha)]
    exact e
  · obtain ⟨v, e, r⟩ := c.obj n a u h1 h2
    refine ⟨v, ?_, RelO.sub S r⟩
    show upd w.H p o a = some v
    rw [upd_ne fun q => pm (by rw [← q]; exact List.mem_of_getElem? h1)]
    exact e
  · exact Wd.fr_some.mpr ⟨pm, px, upd_same⟩
end
end ND
noncomputable section
namespace ND
open PySem L2
section
variable {K : PySem.W.Frag}
/-! ### environments, results -/
def REnv (K : PySem.W.Frag) (w : Wd) (env : Env) (σ : L2.St) : Prop := env.length = σ.length ∧ ∀ (i : Nat) (d : D), env[i]? = some (some d) → ∃ v, σ[i]? = some (some v) ∧ Rel K w d v
theorem REnv.sub {w w' : Wd} {env : Env} {σ : L2.St} (r : REnv K w env σ) (h : w.Sub w') : REnv K w' env σ := ⟨r.1, fun i d e => by
  obtain ⟨v, q, s⟩ := r.2 i d e
  exact ⟨v, q, Rel.sub h d v s⟩⟩
theorem REnv.le {w w' : Wd} {env : Env} {σ : L2.St} (r : REnv K w env σ) (h : w.Le w') : REnv K w' env σ := r.sub h.sub
theorem REnv.set {w : Wd} {env : Env} {σ : L2.St} (r : REnv K w env σ) (i : Nat) {d : D} {v : V} (h : Rel K w d v) : REnv K w (env.set i (some d)) (σ.set i (some v)) := by
  refine ⟨by rw [List.length_set, List.length_set, r.1], fun j e hj => ?_⟩
  by_cases q : i = j
  · subst q
    by_cases l : i < env.length
    · rw [List.getElem?_set_self l] at hj
      cases hj
      exact ⟨v, List.getElem?_set_self (by rw [← r.1]; exact l), h⟩
    · rw [List.getElem?_eq_none (by rw [List.length_set]; exact Nat.le_of_not_lt l)] at hj
      cases hj
  · rw [List.getElem?_set_ne q] at hj ⊢
    exact r.2 j e hj
theorem REnv.unset {w : Wd} {env : Env} {σ : L2.St} (r : REnv K w env σ) (i : Nat) : REnv K w (env.set i none) (σ.set i none) := by
  refine ⟨by rw [List.length_set, List.length_set, r.1], fun j e hj => ?_⟩
  by_cases q : i = j
  · subst q
    by_cases l : i < env.length
    · rw [List.getElem?_set_self l] at hj
      cases hj
    · rw [List.getElem?_eq_none (by rw [List.length_set]; exact Nat.le_of_not_lt l)] at hj
      cases hj
  · rw [List.getElem?_set_ne q] at hj ⊢
    exact r.2 j e hj
def wipeD (env : Env) : List Nat → Env
  | [] => env
  | v :: vs => (wipeD env vs).set v none
theorem REnv.wipe {w : Wd} {env : Env} {σ : L2.St} (r : REnv K w env σ) : ∀ vs : List Nat, REnv K w (wipeD env vs) (L2.wipe σ vs)
  | [] => r
  | v :: vs => (REnv.wipe r vs).unset v
/-- an exception's own dict -/
def XRel (K : PySem.W.Frag) (w : Wd) (fs : List String) (xs : List D) (dd : Option Addr) : Prop :=
  (fs = [] ∧ xs = [] ∧ dd = none) ∨ ∃ d gs, dd = some d ∧ w.fr d = some (.xd gs) ∧ gs.map (·.1) = fs.map Str.ofString ∧ Rels K w xs (gs.map (·.2))
theorem XRel.sub {w w' : Wd} {fs : List String} {xs : List D} {dd : Option Addr} (r : XRel K w fs xs dd) (h : w.Sub w') : XRel K w' fs xs dd := by
  rcases r with r | ⟨d, gs, e, f, g, s⟩
  · exact .inl r
  · exact .inr ⟨d, gs, e, h.fr _ _ f, g, Rels.sub h _ _ s⟩
def Post (K : PySem.W.Frag) {α ν : Type} (R : Wd → α → ν → Prop) (w : Wd) (σ : L2.St) (Wx : WX) (Q : ν → Hp → Prop) : Res α → Prop
  | .ok a st => ∀ w' v, w.Le w' → R w' a v → Corr K w' st → Q v w'.H
  | .exc k fs xs st => ∀ w' dd, w.Le w' → Corr K w' st → XRel K w' fs xs dd → Wx (.ref (gaS K k)) dd σ w'.H
  | .bad => False
theorem Post.le {α ν : Type} {R : Wd → α → ν → Prop} {w w1 : Wd} {σ : L2.St} {Wx : WX} {Q : ν → Hp → Prop} {r : Res α} (h : Post K R w σ Wx Q r) (l : w.Le w1) : Post K R w1 σ Wx Q r := by
  cases r with
  | ok a st => exact fun w' v l' => h w' v (l.trans l')
  | exc k fs xs st => exact fun w' v l' => h w' v (l.trans l')
  | bad => exact h
abbrev M (α : Type) : Type := Env → Sto → Res α
def tG (K : PySem.W.Frag) {α ν : Type} (R : Wd → α → ν → Prop) (Wx : WX) (m : M α) : L2.St → Hp → (ν → Hp → Prop) → Prop := fun σ H Q =>
  ∃ mu xi env st, REnv K ⟨H, mu, xi⟩ env σ ∧ Corr K ⟨H, mu, xi⟩ st ∧ Post K R ⟨H, mu, xi⟩ σ Wx Q (m env st)
abbrev tE (K : PySem.W.Frag) (Wx : WX) (m : M D) : TE := tG K (Rel K) Wx m
abbrev tA (K : PySem.W.Frag) (Wx : WX) (m : M (List D)) : TA := tG K (Rels K) Wx m
abbrev RB : Wd → Bool → Bool → Prop := fun _ a b => a = b
abbrev tT (K : PySem.W.Frag) (Wx : WX) (m : M Bool) : TT := tG K RB Wx m
theorem Post.mono {α ν : Type} {R : Wd → α → ν → Prop} {w : Wd} {σ : L2.St} {Wx : WX} {Q Q' : ν → Hp → Prop} {r : Res α} (h : Post K R w σ Wx Q r) (i : ∀ v H, Q v H → Q' v H) : Post K R w σ Wx Q' r := by
  cases r with
  | ok a st => exact fun w' v l r c => i _ _ (h w' v l r c)
  | exc k fs xs st => exact h
  | bad => exact h
theorem tG_mono {α ν : Type} {R : Wd → α → ν → Prop} {Wx : WX} {m : M α} {σ : L2.St} {H : Hp} {Q Q' : ν → Hp → Prop} (h : tG K R Wx m σ H Q) (i : ∀ v H, Q v H → Q' v H) : tG K R Wx m σ H Q' := by
  obtain ⟨mu, xi, env, st, re, c, h⟩ := h
  exact ⟨mu, xi, env, st, re, c, h.mono i⟩
/-- one part, then what hangs on its result -/
theorem tG_bind {α ν β κ : Type} {R : Wd → α → ν → Prop} {R' : Wd → β → κ → Prop} {w : Wd} {σ : L2.St} {Wx : WX} {Q : κ → Hp → Prop} {env : Env} {st : Sto} {ma : M α} {k : α → Sto → Res β}
    (re : REnv K w env σ) (c : Corr K w st) (h : Post K R' w σ Wx Q ((ma env st).bind k)) :
    tG K R Wx ma σ w.H fun v H1 => ∃ mu xi a st1, w.Le ⟨H1, mu, xi⟩ ∧ R ⟨H1, mu, xi⟩ a v ∧ Corr K ⟨H1, mu, xi⟩ st1 ∧ REnv K ⟨H1, mu, xi⟩ env σ ∧ Post K R' ⟨H1, mu, xi⟩ σ Wx Q (k a st1) := by
  refine ⟨w.mu, w.xi, env, st, re, c, ?_⟩
  cases e : ma env st with
  | ok a st1 =>
    rw [e] at h
    exact fun w' v l r c' => ⟨w'.mu, w'.xi, a, st1, l, r, c', re.le l, Post.le h l⟩
  | exc k fs xs st1 =>
    rw [e] at h
    exact h
  | bad =>
    rw [e] at h
    exact h
end
theorem PE.mono {X : Cx} {e : Expr} {t t' : TE} (h : PE X e t) (i : ∀ σ H Q, t' σ H Q → t σ H Q) : PE X e t' := ⟨fun pins s σ H Q I q => h.run pins s σ H Q I (i σ H Q q)⟩
theorem PT.mono {X : Cx} {e : Expr} {t t' : TT} (h : PT X e t) (i : ∀ σ H Q, t' σ H Q → t σ H Q) : PT X e t' := ⟨fun pins s σ H Q I q => h.run pins s σ H Q I (i σ H Q q)⟩
theorem PW.mono {X : Cx} {e : Expr} {t t' : TT} (h : PW X e t) (i : ∀ σ H Q, t' σ H Q → t σ H Q) : PW X e t' := ⟨fun wh pins s σ H Q I q => h.run wh pins s σ H Q I (i σ H Q q)⟩
theorem PA.mono {X : Cx} {e : List Expr} {t t' : TA} (h : PA X e t) (i : ∀ σ H Q, t' σ H Q → t σ H Q) : PA X e t' := ⟨fun p pins s σ H Q I q => h.run p pins s σ H Q I (i σ H Q q)⟩
theorem PS.mono {X : Cx} {e : Stmt} {t t' : TS} (h : PS X e t) (i : ∀ D σ H, t' D σ H → t D σ H) : PS X e t' := ⟨fun pins s σ H D I q => h.run pins s σ H D I (i D σ H q)⟩
theorem PSs.mono {X : Cx} {e : List Stmt} {t t' : TS} (h : PSs X e t) (i : ∀ D σ H, t' D σ H → t D σ H) : PSs X e t' := ⟨fun pins s σ H D I q => h.run pins s σ H D I (i D σ H q)⟩

/-! ### the judgements -/
abbrev CE (X : Cx) (Wx : WX) (e : Expr) (m : M D) : Prop := PE X e (tE X.K Wx m)
abbrev CA (X : Cx) (Wx : WX) (es : List Expr) (m : M (List D)) : Prop := PA X es (tA X.K Wx m)
abbrev CT (X : Cx) (Wx : WX) (e : Expr) (m : M Bool) : Prop := PT X e (tT X.K Wx m)
abbrev CW (X : Cx) (Wx : WX) (e : Expr) (m : M Bool) : Prop := PW X e (tT X.K Wx m)
section
variable {X : Cx} {Wx : WX} {a b c e o : Expr} {es : List Expr} {ma mb mc me : M D} {ms : M (List D)} {pos : Pos}

/-! ### names, constants -/
def eK (d : D) : M D := fun _ st => .ok d st
def eVar (i : Nat) : M D := fun env st => match env[i]? with
  | some (some d) => .ok d st
  | _ => .bad
theorem ce_var (i : Nat) {x : Str} (hN : X.N[i]? = some x := by rfl) (hv : Vis X.env.scope x := by first | exact Or.inl rfl | exact Or.inr (Or.inl rfl) | exact Or.inr (Or.inr rfl)) (hd : (x == ("__debug__" : Str)) = false := by decide)
    (hcd : (x == ("__classdict__" : Str)) = false := by decide) : CE X Wx (.Name x pos) (eVar i) := by
  refine PE.mono (pe_var hN hv hd hcd) fun σ H Q h => ?_
  obtain ⟨mu, xi, env, st, re, c, h⟩ := h
  unfold eVar at h
  split at h
  · rename_i d hd
    obtain ⟨v, e, r⟩ := re.2 i d hd
    exact ⟨v, e, h _ v (.refl _) r c⟩
  · exact h.elim
theorem ce_const {d : D} {v : V} (h : PE X e (tC v)) (r : ∀ w, Rel X.K w d v) : CE X Wx e (eK d) := PE.mono h fun σ H Q h => by
  obtain ⟨mu, xi, env, st, re, c, h⟩ := h
  exact h _ v (.refl _) (r _) c
theorem ce_int {i j} : CE X Wx (.Constant (.int i) j pos) (eK (.int i)) := ce_const pe_int fun w => by unfold Rel; rfl
theorem ce_bl {i j} : CE X Wx (.Constant (.bool i) j pos) (eK (.bl i)) := ce_const pe_bl fun w => by unfold Rel; rfl
theorem ce_non {j} : CE X Wx (.Constant .none j pos) (eK .non) := ce_const pe_non fun w => by unfold Rel; rfl
theorem ce_str {i j} : CE X Wx (.Constant (.str i) j pos) (eK (.str i)) := ce_const pe_str fun w => by unfold Rel; rfl
/-- a module's constant, an int or a text -/
theorem ce_gint {x : Str} {i : Int} (hm : ∃ t, X.mg x = some (.int i t)) (hg : Gl X x := by rfl) (hd : (x == ("__debug__" : Str)) = false := by decide) : CE X Wx (.Name x pos) (eK (.int i)) := by
  obtain ⟨t, hm⟩ := hm
  exact ce_const (pe_glob (v := .int i) hg hm ⟨t, rfl⟩ hd) fun w => by unfold Rel; rfl
theorem ce_gstr {x : Str} {i : Str} (hm : ∃ t, X.mg x = some (.str i t)) (hg : Gl X x := by rfl) (hd : (x == ("__debug__" : Str)) = false := by decide) : CE X Wx (.Name x pos) (eK (.str i)) := by
  obtain ⟨t, hm⟩ := hm
  exact ce_const (pe_glob (v := .str i) hg hm ⟨t, rfl⟩ hd) fun w => by unfold Rel; rfl
/-- a class or a def of the module, as a value -/
theorem ce_glo (x : String) (hm : X.mg (Str.ofString x) = some (.ref (gaS X.K x))) (hg : Gl X (Str.ofString x) := by rfl) (hd : ((Str.ofString x) == ("__debug__" : Str)) = false := by decide) : CE X Wx (.Name (Str.ofString x) pos) (eK (.glo x)) :=
  ce_const (pe_glob (v := .ref (gaS X.K x)) hg hm rfl hd) fun w => by unfold Rel; rfl
theorem ce_ty {x : Str} (n : String) (hm : X.mg x = none) (hv : bootBuiltins x = some (.type n)) (hg : Gl X x := by rfl) (hn : x ≠ "__name__" := by decide) (hd : (x == ("__debug__" : Str)) = false := by decide) : CE X Wx (.Name x pos) (eK (.ty n)) :=
  ce_const (pe_bltn (v := .ty n) hg hm hv rfl hn hd) fun w => by unfold Rel; rfl

/-! ### arguments -/
def aNil : M (List D) := fun _ st => .ok [] st
def aCons (m : M D) (ms : M (List D)) : M (List D) := fun env st => (m env st).bind fun d s1 => (ms env s1).bind fun ds s2 => .ok (d :: ds) s2
theorem ca_nil : CA X Wx [] aNil := PA.mono pa_nil fun σ H Q h => by
  obtain ⟨mu, xi, env, st, re, c, h⟩ := h
  exact h _ [] (.refl _) .nil c
theorem ca_cons (ha : CE X Wx e me) (hr : CA X Wx es ms) (hs : starEach (e :: es) X.env = (false, eval e X.env) :: starEach es X.env := by rfl) : CA X Wx (e :: es) (aCons me ms) := by
  refine PA.mono (pa_cons ha hr hs) fun σ H Q h => ?_
  obtain ⟨mu, xi, env, st, re, c, h⟩ := h
  exact tG_mono (tG_bind (R := Rel X.K) re c h) fun v H1 ⟨mu1, xi1, d, s1, l1, r1, c1, re1, p1⟩ =>
    tG_mono (tG_bind (R := Rels X.K) re1 c1 p1) fun vs H2 ⟨mu2, xi2, ds, s2, l2, r2, c2, re2, p2⟩ => p2 ⟨H2, mu2, xi2⟩ (v :: vs) (.refl _) (.cons (r1.le l2) r2) c2
end
end ND
end
noncomputable section
namespace ND
open PySem L2 PyProof.Rows
abbrev D2 : Type := D → D → Sto → Res D
section
variable {X : Cx} {Wx : WX}
/-- a two-place operation on values, by data -/
def OpD (X : Cx) (Wx : WX) (f : Value → Value → Sem Value) (g : D2) : Prop :=
  ∀ (pins : List (Addr × Obj)) (s : Shared) (σ : L2.St) (w : Wd) (st : Sto) (x y : D) (vx vy : V) (v u : Value) (Q : VK), Inv X pins σ w.H s → Corr X.K w st → Rel X.K w x vx → Rel X.K w y vy → RelV vx v → RelV vy u →
    Post X.K (Rel X.K) w σ Wx Q (g x y st) → wpAny (model X.prog X.w) X.A (f v u) (EP X pins σ Q) X.xe s
theorem OpD.ite {f : Value → Value → Sem Value} {g1 g2 : D2} (p : D → D → Sto → Bool) (h1 : OpD X Wx f g1) (h2 : OpD X Wx f g2) : OpD X Wx f (fun x y st => if p x y st = true then g1 x y st else g2 x y st) := by
  intro pins s σ w st x y vx vy v u Q I c rx ry rv ru h
  dsimp only at h
  by_cases q : p x y st = true
  · rw [if_pos q] at h
    exact h1 pins s σ w st x y vx vy v u Q I c rx ry rv ru h
  · rw [if_neg q] at h
    exact h2 pins s σ w st x y vx vy v u Q I c rx ry rv ru h
variable {a b c e o : Expr} {es : List Expr} {ma mb mc me : M D} {ms : M (List D)} {pos : Pos}
def e2 (g : D2) (ma mb : M D) : M D := fun env st => (ma env st).bind fun x s1 => (mb env s1).bind fun y s2 => g x y s2
/-- two parts, then an operation -/
theorem bin2 {g : D2} {f : Value → Value → Sem Value} (ho : OpD X Wx f g) (ha : CE X Wx a ma) (hb : CE X Wx b mb) {pins : List (Addr × Obj)} {s : Shared} {σ : L2.St} {H : Hp} {Q : VK} (I : Inv X pins σ H s) (h : tE X.K Wx (e2 g ma mb) σ H Q) :
    wpAny (model X.prog X.w) X.A (eval a X.env) (fun v s₁ => wpAny (model X.prog X.w) X.A (eval b X.env) (fun u s₂ => wpAny (model X.prog X.w) X.A (f v u) (EP X pins σ Q) X.xe s₂) X.xe s₁) X.xe s := by
  obtain ⟨mu, xi, env, st, re, c, h⟩ := h
  refine thn (ha.run pins s σ H _ I (tG_bind (R := Rel X.K) re c h)) fun v s1 ⟨x, H1, I1, rv, mu1, xi1, d, st1, l1, r1, c1, re1, p1⟩ => ?_
  refine thn (hb.run pins s1 σ H1 _ I1 (tG_bind (R := Rel X.K) re1 c1 p1)) fun u s2 ⟨y, H2, I2, ru, mu2, xi2, d2, st2, l2, r2, c2, re2, p2⟩ => ?_
  exact ho pins s2 σ ⟨H2, mu2, xi2⟩ st2 d d2 x y v u Q I2 c2 (r1.le l2) r2 rv ru p2
theorem ce_bin {op : Operator} {g : D2} (ho : OpD X Wx (binaryOp op) g) (ha : CE X Wx a ma) (hb : CE X Wx b mb) : CE X Wx (.BinOp a op b pos) (e2 g ma mb) :=
  ⟨fun pins s σ H Q I h => wpAny_BinOp (bin2 ho ha hb I h)⟩
theorem ce_cmp {op : CmpOp} {g : D2} (ho : OpD X Wx (compareOp op) g) (ha : CE X Wx a ma) (hb : CE X Wx b mb) (hm : behindInMarks op b = false := by first | exact nomark _ | rfl) : CE X Wx (.Compare a [op] [b] pos) (e2 g ma mb) :=
  ⟨fun pins s σ H Q I h => wpAny_Compare1 (bin2 ho ha hb I h) hm⟩
/-- a result that is a bool, as a test -/
def toB (m : M D) : M Bool := fun env st => (m env st).bind fun d s1 => match d with
  | .bl b => .ok b s1
  | _ => .bad
theorem toB_of {m : M D} {σ : L2.St} {H : Hp} {Q : Bool → Hp → Prop} (h : tT X.K Wx (toB m) σ H Q) : tE X.K Wx m σ H fun x H1 => ∃ k, x = .bl k ∧ Q k H1 := by
  obtain ⟨mu, xi, env, st, re, c, h⟩ := h
  refine tG_mono (tG_bind (R := Rel X.K) re c h) fun v H1 ⟨mu1, xi1, d, st1, l1, r1, c1, re1, p1⟩ => ?_
  cases d with
  | bl b =>
    have r2 : v = .bl b := by
      unfold Rel at r1
      exact r1
    exact ⟨b, r2, p1 ⟨H1, mu1, xi1⟩ b (.refl _) rfl c1⟩
  | _ => exact p1.elim
theorem ct_cmp {op : CmpOp} {g : D2} (ho : OpD X Wx (compareOp op) g) (ha : CE X Wx a ma) (hb : CE X Wx b mb) (hm : behindInMarks op b = false := by first | exact nomark _ | rfl) : CT X Wx (.Compare a [op] [b] pos) (toB (e2 g ma mb)) := by
  refine ⟨fun pins s σ H Q I h => wpAny_isTrue_Compare1 ?_ hm⟩
  have q := bin2 ho ha hb I (toB_of h)
  refine thn q fun v s1 q1 => thn q1 fun u s2 q2 => thn q2 fun cc s3 ⟨z, H3, I3, r3, k, e, q3⟩ => ?_
  subst e
  cases r3
  exact wpAny_truthy_bool ⟨H3, I3, q3⟩

/-! ### truth -/
def seqL (st : Sto) : D → Option (List D)
  | .lst xs => some xs
  | .ext ns => some (ns.map .int)
  | .ref n => match st[n]? with
    | some (.lst xs) => some xs
    | _ => none
  | _ => none
def seqT : D → Option (List D)
  | .tup xs => some xs
  | _ => none
theorem fr_here {w : Wd} {a : Addr} {o : HO} (h : w.fr a = some o) : w.H a = some o := (Wd.fr_some.mp h).2.2
theorem seqL_ok {K : PySem.W.Frag} {w : Wd} {st : Sto} {d : D} {v : V} {xs : List D} (c : Corr K w st) (r : Rel K w d v) (h : seqL st d = some xs) : ∃ a vs, v = .ref a ∧ SqL K w.H a vs ∧ Rels K w xs vs := by
  cases d with
  | lst ys =>
    have e : ys = xs := Option.some.inj h
    subst e
    unfold Rel at r
    obtain ⟨a, vs, e, q, s⟩ := r
    exact ⟨a, vs, e, .inl (.inl (fr_here q)), s⟩
  | ext ns =>
    have e : ns.map D.int = xs := Option.some.inj h
    subst e
    unfold Rel at r
    obtain ⟨a, e, q⟩ := r
    exact ⟨a, _, e, ex_l (fun _ _ => fr_here) q, Rels.ofInts ns⟩
  | ref n =>
    unfold Rel at r
    obtain ⟨a, e, q⟩ := r
    have h2 : (match st[n]? with
      | some (.lst xs) => some xs
      | _ => none) = some xs := h
    split at h2
    · rename_i ys hy
      have e2 : ys = xs := Option.some.inj h2
      subst e2
      obtain ⟨u, hu, vs, rfl, s⟩ := c.obj n a _ q hy
      exact ⟨a, vs, e, .inl (.inl hu), s⟩
    · cases h2
  | _ => cases h
theorem seqT_ok {K : PySem.W.Frag} {w : Wd} {d : D} {v : V} {xs : List D} (r : Rel K w d v) (h : seqT d = some xs) : ∃ a vs, v = .ref a ∧ SqT K w.H a vs ∧ Rels K w xs vs := by
  cases d with
  | tup ys =>
    have e : ys = xs := Option.some.inj h
    subst e
    unfold Rel at r
    obtain ⟨a, vs, e, q, s⟩ := r
    exact ⟨a, vs, e, .inl (.inl (fr_here q)), s⟩
  | _ => cases h
def keysD (st : Sto) : D → Option (List Key)
  | .dK ks _ => some ks
  | .ref n => match st[n]? with
    | some (.dK ks _) => some ks
    | _ => none
  | _ => none
def truD (st : Sto) (d : D) : Option Bool := match d with
  | .non => some false
  | .bl b => some b
  | .int i => some (i != 0)
  | .str y => if Ok (y.length ≤ sizeLine) then some ((y.length : Int) != 0) else none
  | _ => match seqL st d with
    | some xs => some (!xs.isEmpty)
    | none => match seqT d with
      | some xs => some (!xs.isEmpty)
      | none => none
theorem Rels.empty {K : PySem.W.Frag} {w : Wd} {xs : List D} {vs : List V} (r : Rels K w xs vs) : xs.isEmpty = vs.isEmpty := by
  have h := r.length
  cases xs <;> cases vs <;> simp_all
theorem truD_ok {K : PySem.W.Frag} {w : Wd} {st : Sto} {d : D} {v : V} {b : Bool} (c : Corr K w st) (r : Rel K w d v) (h : truD st d = some b) : TruV K v w.H b := by
  have fin : (match seqL st d with
    | some xs => some (!xs.isEmpty)
    | none => match seqT d with
      | some xs => some (!xs.isEmpty)
      | none => none) = some b → TruV K v w.H b := by
    intro h
    split at h
    · rename_i xs hx
      obtain ⟨a, vs, rfl, q, s⟩ := seqL_ok c r hx
      exact .inl ⟨vs, q, by rw [← s.empty]; exact (Option.some.inj h).symm⟩
    · split at h
      · rename_i xs hx
        obtain ⟨a, vs, rfl, q, s⟩ := seqT_ok r hx
        exact .inr (.inl ⟨vs, q, by rw [← s.empty]; exact (Option.some.inj h).symm⟩)
      · cases h
  cases d with
  | non =>
    unfold Rel at r
    subst r
    exact (Option.some.inj h).symm
  | bl k =>
    unfold Rel at r
    subst r
    exact (Option.some.inj h).symm
  | int i =>
    unfold Rel at r
    subst r
    exact (Option.some.inj h).symm
  | str y =>
    unfold Rel at r
    subst r
    have h2 : (if Ok (y.length ≤ sizeLine) then some ((y.length : Int) != 0) else none) = some b := h
    split at h2
    · rename_i hy
      exact ⟨hy, (Option.some.inj h2).symm⟩
    · cases h2
  | lst xs => exact fin h
  | tup xs => exact fin h
  | ref n => exact fin h
  | ins k fs xs => exact fin h
  | dK ks xs => exact fin h
  | dT ks xs => exact fin h
  | glo x => exact fin h
  | ext x => exact fin h
  | ty x => exact fin h
  | exc k fs xs => exact fin h
def tru (m : M D) : M Bool := fun env st => (m env st).bind fun d s1 => match truD s1 d with
  | some b => .ok b s1
  | none => .bad
theorem tru_of {m : M D} {σ : L2.St} {H : Hp} {Q : Bool → Hp → Prop} (h : tT X.K Wx (tru m) σ H Q) : tE X.K Wx m σ H fun x H1 => ∃ k, TruV X.K x H1 k ∧ Q k H1 := by
  obtain ⟨mu, xi, env, st, re, c, h⟩ := h
  refine tG_mono (tG_bind (R := Rel X.K) re c h) fun v H1 ⟨mu1, xi1, d, st1, l1, r1, c1, re1, p1⟩ => ?_
  cases e : truD st1 d with
  | some b =>
    rw [e] at p1
    exact ⟨b, truD_ok c1 r1 e, p1 ⟨H1, mu1, xi1⟩ b (.refl _) rfl c1⟩
  | none =>
    rw [e] at p1
    exact p1.elim
theorem ct_truth {m : M D} (ha : CE X Wx a m) (he : ∀ whole, isTrue a X.env whole = (do let v ← whole; standAt a.pos; holding [v] (truthy v)) := by intro _; rfl) : CT X Wx a (tru m) :=
  PT.mono (pt_truth ha he) fun σ H Q h => tru_of h

/-! ### and, or, not, if else -/
variable {ta tb : M Bool} {rest : List Expr}
def bAnd (ta tb : M Bool) : M Bool := fun env st => (ta env st).bind fun b s1 => if b = true then tb env s1 else .ok false s1
def bOr (ta tb : M Bool) : M Bool := fun env st => (ta env st).bind fun b s1 => if b = true then .ok true s1 else tb env s1
def bNot (ta : M Bool) : M Bool := fun env st => (ta env st).bind fun b s1 => .ok (!b) s1
theorem cw_and1 (ha : CT X Wx a ta) : CW X Wx (.BoolOp .And [a] pos) ta := pw_and1 ha
theorem cw_or1 (ha : CT X Wx a ta) : CW X Wx (.BoolOp .Or [a] pos) ta := pw_or1 ha
theorem cw_and (ha : CT X Wx a ta) (hb : CW X Wx (.BoolOp .And (b :: rest) pos) tb) : CW X Wx (.BoolOp .And (a :: b :: rest) pos) (bAnd ta tb) := PW.mono (pw_and ha hb) fun σ H Q h => by
  obtain ⟨mu, xi, env, st, re, c, h⟩ := h
  refine tG_mono (tG_bind (R := RB) re c h) fun v H1 ⟨mu1, xi1, d, st1, l1, r1, c1, re1, p1⟩ => ?_
  cases r1
  cases v with
  | true => exact ⟨mu1, xi1, env, st1, re1, c1, p1⟩
  | false => exact p1 ⟨H1, mu1, xi1⟩ _ (.refl _) rfl c1
theorem cw_or (ha : CT X Wx a ta) (hb : CW X Wx (.BoolOp .Or (b :: rest) pos) tb) : CW X Wx (.BoolOp .Or (a :: b :: rest) pos) (bOr ta tb) := PW.mono (pw_or ha hb) fun σ H Q h => by
  obtain ⟨mu, xi, env, st, re, c, h⟩ := h
  refine tG_mono (tG_bind (R := RB) re c h) fun v H1 ⟨mu1, xi1, d, st1, l1, r1, c1, re1, p1⟩ => ?_
  cases r1
  cases v with
  | false => exact ⟨mu1, xi1, env, st1, re1, c1, p1⟩
  | true => exact p1 ⟨H1, mu1, xi1⟩ _ (.refl _) rfl c1
theorem ct_w {t : M Bool} (h : CW X Wx a t) : CT X Wx a t := PW.pt h
theorem ct_not (ha : CT X Wx a ta) : CT X Wx (.UnaryOp .Not a pos) (bNot ta) := PT.mono (pt_not ha) fun σ H Q h => by
  obtain ⟨mu, xi, env, st, re, c, h⟩ := h
  refine tG_mono (tG_bind (R := RB) re c h) fun v H1 ⟨mu1, xi1, d, st1, l1, r1, c1, re1, p1⟩ => ?_
  cases r1
  exact p1 ⟨H1, mu1, xi1⟩ _ (.refl _) rfl c1
def eIf (t : M Bool) (ma mb : M D) : M D := fun env st => (t env st).bind fun b s1 => if b = true then ma env s1 else mb env s1
theorem ce_if (hc : CT X Wx c ta) (ha : CE X Wx a ma) (hb : CE X Wx b mb) : CE X Wx (.IfExp c a b pos) (eIf ta ma mb) := PE.mono (pe_ifExp hc ha hb) fun σ H Q h => by
  obtain ⟨mu, xi, env, st, re, c, h⟩ := h
  refine tG_mono (tG_bind (R := RB) re c h) fun v H1 ⟨mu1, xi1, d, st1, l1, r1, c1, re1, p1⟩ => ?_
  cases r1
  cases v with
  | true => exact ⟨mu1, xi1, env, st1, re1, c1, p1⟩
  | false => exact ⟨mu1, xi1, env, st1, re1, c1, p1⟩
def eAnd (ma mb : M D) : M D := fun env st => (ma env st).bind fun x s1 => match truD s1 x with
  | some true => mb env s1
  | some false => .ok x s1
  | none => .bad
def eOr (ma mb : M D) : M D := fun env st => (ma env st).bind fun x s1 => match truD s1 x with
  | some true => .ok x s1
  | some false => mb env s1
  | none => .bad
def eNot (ma : M D) : M D := fun env st => (ma env st).bind fun x s1 => match truD s1 x with
  | some b => .ok (.bl (!b)) s1
  | none => .bad
theorem ce_one {op} (h : CE X Wx a ma) : CE X Wx (.BoolOp op [a] pos) ma := pe_one h
theorem ce_and (ha : CE X Wx a ma) (hb : CE X Wx (.BoolOp .And (b :: rest) pos) mb) : CE X Wx (.BoolOp .And (a :: b :: rest) pos) (eAnd ma mb) := PE.mono (pe_andT ha hb) fun σ H Q h => by
  obtain ⟨mu, xi, env, st, re, c, h⟩ := h
  refine tG_mono (tG_bind (R := Rel X.K) re c h) fun v H1 ⟨mu1, xi1, d, st1, l1, r1, c1, re1, p1⟩ => ?_
  cases e : truD st1 d with
  | none =>
    rw [e] at p1
    exact p1.elim
  | some k =>
    rw [e] at p1
    refine ⟨k, truD_ok c1 r1 e, ?_⟩
    cases k with
    | true => exact ⟨mu1, xi1, env, st1, re1, c1, p1⟩
    | false => exact p1 ⟨H1, mu1, xi1⟩ _ (.refl _) r1 c1
theorem ce_or (ha : CE X Wx a ma) (hb : CE X Wx (.BoolOp .Or (b :: rest) pos) mb) : CE X Wx (.BoolOp .Or (a :: b :: rest) pos) (eOr ma mb) := PE.mono (pe_orT ha hb) fun σ H Q h => by
  obtain ⟨mu, xi, env, st, re, c, h⟩ := h
  refine tG_mono (tG_bind (R := Rel X.K) re c h) fun v H1 ⟨mu1, xi1, d, st1, l1, r1, c1, re1, p1⟩ => ?_
  cases e : truD st1 d with
  | none =>
    rw [e] at p1
    exact p1.elim
  | some k =>
    rw [e] at p1
    refine ⟨k, truD_ok c1 r1 e, ?_⟩
    cases k with
    | false => exact ⟨mu1, xi1, env, st1, re1, c1, p1⟩
    | true => exact p1 ⟨H1, mu1, xi1⟩ _ (.refl _) r1 c1
theorem ce_not (ha : CE X Wx a ma) : CE X Wx (.UnaryOp .Not a pos) (eNot ma) := PE.mono (pe_notT ha) fun σ H Q h => by
  obtain ⟨mu, xi, env, st, re, c, h⟩ := h
  refine tG_mono (tG_bind (R := Rel X.K) re c h) fun v H1 ⟨mu1, xi1, d, st1, l1, r1, c1, re1, p1⟩ => ?_
  cases e : truD st1 d with
  | none =>
    rw [e] at p1
    exact p1.elim
  | some k =>
    rw [e] at p1
    exact ⟨k, truD_ok c1 r1 e, p1 ⟨H1, mu1, xi1⟩ _ (.refl _) (by unfold Rel; rfl) c1⟩

/-! ### int operators -/
theorem opd_of {f : Value → Value → Sem Value} {g : D2} {r : R2} (ho : OpR X f r) (sd : ∀ (w : Wd) (σ : L2.St) (st : Sto) (x y : D) (vx vy : V) (Q : VK), Corr X.K w st → Rel X.K w x vx → Rel X.K w y vy → Post X.K (Rel X.K) w σ Wx Q (g x y st) → r vx vy w.H Q) : OpD X Wx f g := by
  intro pins s σ w st x y vx vy v u Q I c rx ry rv ru h
  exact ho pins s σ w.H vx vy v u Q I rv ru (sd w σ st x y vx vy Q c rx ry h)
def i2 (C : Int → Int → Bool) (g : Int → Int → D) : D2
  | .int i, .int j, st => if C i j = true then .ok (g i j) st else .bad
  | _, _, _ => .bad
theorem opd_int {f : Value → Value → Sem Value} {C : Int → Int → Bool} {CP : Int → Int → Prop} {g : Int → Int → D} {g' : Int → Int → V} (ho : OpR X f (rI CP g')) (hc : ∀ i j, C i j = true → CP i j) (hg : ∀ w i j, Rel X.K w (g i j) (g' i j)) : OpD X Wx f (i2 C g) :=
  opd_of ho fun w σ st x y vx vy Q c rx ry h => by
    cases x with
    | int i =>
      cases y with
      | int j =>
        unfold Rel at rx ry
        have h2 : Post X.K (Rel X.K) w σ Wx Q (if C i j = true then .ok (g i j) st else .bad) := h
        by_cases q : C i j = true
        · rw [if_pos q] at h2
          exact ⟨i, j, rx, ry, hc i j q, h2 w _ (.refl _) (hg w i j) c⟩
        · rw [if_neg q] at h2
          exact h2.elim
      | _ => exact h.elim
    | _ => exact h.elim
theorem opd_int0 {f : Value → Value → Sem Value} {g : Int → Int → D} {g' : Int → Int → V} (ho : OpR X f (rI0 g')) (hg : ∀ w i j, Rel X.K w (g i j) (g' i j)) : OpD X Wx f (i2 (fun _ _ => true) g) :=
  opd_of ho fun w σ st x y vx vy Q c rx ry h => by
    cases x with
    | int i =>
      cases y with
      | int j =>
        unfold Rel at rx ry
        have h2 : Post X.K (Rel X.K) w σ Wx Q (if true = true then .ok (g i j) st else .bad) := h
        rw [if_pos rfl] at h2
        exact ⟨i, j, rx, ry, h2 w _ (.refl _) (hg w i j) c⟩
      | _ => exact h.elim
    | _ => exact h.elim
theorem rel_int {K : PySem.W.Frag} (w : Wd) (i : Int) : Rel K w (.int i) (.int i) := by unfold Rel; rfl
theorem rel_bl {K : PySem.W.Frag} (w : Wd) (i : Bool) : Rel K w (.bl i) (.bl i) := by unfold Rel; rfl
theorem rel_str {K : PySem.W.Frag} (w : Wd) (i : Str) : Rel K w (.str i) (.str i) := by unfold Rel; rfl
def addI : D2 := i2 (fun _ _ => true) fun i j => .int (i + j)
def subI : D2 := i2 (fun _ _ => true) fun i j => .int (i - j)
noncomputable def mulC (i j : Int) : Bool := decide (Ok (i.natAbs.log2 + j.natAbs.log2 < 1000000))
def mulI : D2 := i2 mulC fun i j => .int (i * j)
noncomputable def divC (i j : Int) : Bool := decide (Ok (0 < j)) && decide (Ok (j.natAbs.log2 < 9000))
def divI : D2 := i2 divC fun i j => .int (i / j)
def modI : D2 := i2 (fun _ j => decide (Ok (0 < j))) fun i j => .int (i % j)
noncomputable def powC (i j : Int) : Bool := decide (Ok (0 ≤ j)) && decide (Ok (j ≤ 1000000)) && decide (Ok (i.natAbs < 2 ^ 64))
def powI : D2 := i2 powC fun i j => .int (i ^ j.toNat)
theorem o_addI : OpD X Wx (binaryOp .Add) addI := opd_int0 op_add fun w i j => rel_int w _
theorem o_subI : OpD X Wx (binaryOp .Sub) subI := opd_int0 op_sub fun w i j => rel_int w _
theorem o_mulI : OpD X Wx (binaryOp .Mult) mulI := opd_int op_mulW (fun i j h => ok_of (p := i.natAbs.log2 + j.natAbs.log2 < 1000000) h) fun w i j => rel_int w _
theorem o_divI : OpD X Wx (binaryOp .FloorDiv) divI := opd_int op_fdivW (fun i j h => by
  unfold divC at h
  rw [Bool.and_eq_true] at h
  exact ⟨ok_of h.1, ok_of h.2⟩) fun w i j => rel_int w _
theorem o_modI : OpD X Wx (binaryOp .Mod) modI := opd_int op_mod (fun i j h => ok_of h) fun w i j => rel_int w _
theorem o_powI : OpD X Wx (binaryOp .Pow) powI := opd_int op_pow (fun i j h => by
  unfold powC at h
  rw [Bool.and_eq_true, Bool.and_eq_true] at h
  exact ⟨ok_of h.1.1, ok_of h.1.2, ok_of h.2⟩) fun w i j => rel_int w _
def ltI : D2 := i2 (fun _ _ => true) fun i j => .bl (decide (i < j))
def leI : D2 := i2 (fun _ _ => true) fun i j => .bl (decide (i ≤ j))
def gtI : D2 := i2 (fun _ _ => true) fun i j => .bl (decide (j < i))
def geI : D2 := i2 (fun _ _ => true) fun i j => .bl (decide (j ≤ i))
theorem o_ltI : OpD X Wx (compareOp .Lt) ltI := opd_int0 op_lt fun w i j => rel_bl w _
theorem o_leI : OpD X Wx (compareOp .LtE) leI := opd_int0 op_le fun w i j => rel_bl w _
theorem o_gtI : OpD X Wx (compareOp .Gt) gtI := opd_int0 op_gt fun w i j => rel_bl w _
theorem o_geI : OpD X Wx (compareOp .GtE) geI := opd_int0 op_ge fun w i j => rel_bl w _
/-- x is None -/
def isN (neg : Bool) : D2
  | x, .non, st => match x with
    | .non => .ok (.bl (!neg)) st
    | .exc _ _ _ => .bad
    | _ => .ok (.bl neg) st
  | _, _, _ => .bad
theorem rel_non {K : PySem.W.Frag} {w : Wd} {d : D} {v : V} (r : Rel K w d v) (h : d ≠ .non) (h2 : ∀ k fs xs, d ≠ .exc k fs xs) : decide (v = .non) = false := by
  refine decide_eq_false fun e => ?_
  subst e
  cases d with
  | non => exact h rfl
  | exc k fs xs => exact h2 k fs xs rfl
  | _ =>
    unfold Rel at r
    first
      | (obtain ⟨_, _, _, e, _⟩ := r; cases e; done)
      | (obtain ⟨_, _, e, _⟩ := r; cases e; done)
      | (obtain ⟨_, e, _⟩ := r; cases e; done)
      | (cases r; done)
theorem o_is : OpD X Wx (compareOp .Is) (isN false) := opd_of op_isN fun w σ st x y vx vy Q c rx ry h => by
  cases y with
  | non =>
    unfold Rel at ry
    refine ⟨ry, ?_⟩
    cases x with
    | non =>
      unfold Rel at rx
      subst rx
      exact h w (.bl true) (.refl _) (rel_bl w _) c
    | exc k fs xs => exact h.elim
    | _ =>
      rw [rel_non rx (fun e => by cases e) (fun _ _ _ e => by cases e)]
      exact h w (.bl false) (.refl _) (rel_bl w _) c
  | _ => exact (show False from h).elim
theorem o_isnot : OpD X Wx (compareOp .IsNot) (isN true) := opd_of op_notN fun w σ st x y vx vy Q c rx ry h => by
  cases y with
  | non =>
    unfold Rel at ry
    refine ⟨ry, ?_⟩
    cases x with
    | non =>
      unfold Rel at rx
      subst rx
      exact h w (.bl false) (.refl _) (rel_bl w _) c
    | exc k fs xs => exact h.elim
    | _ =>
      rw [rel_non rx (fun e => by cases e) (fun _ _ _ e => by cases e)]
      exact h w (.bl true) (.refl _) (rel_bl w _) c
  | _ => exact (show False from h).elim
def negI (m : M D) : M D := fun env st => (m env st).bind fun d s1 => match d with
  | .int i => .ok (.int (-i)) s1
  | _ => .bad
theorem ce_neg (ha : CE X Wx a ma) : CE X Wx (.UnaryOp .USub a pos) (negI ma) := PE.mono (pe_un un_neg ha) fun σ H Q h => by
  obtain ⟨mu, xi, env, st, re, c, h⟩ := h
  refine tG_mono (tG_bind (R := Rel X.K) re c h) fun v H1 ⟨mu1, xi1, d, st1, l1, r1, c1, re1, p1⟩ => ?_
  cases d with
  | int i =>
    unfold Rel at r1
    exact ⟨i, r1, p1 ⟨H1, mu1, xi1⟩ _ (.refl _) (rel_int _ _) c1⟩
  | _ => exact p1.elim
end
end ND
end
noncomputable section
namespace ND
open PySem L2 PyProof.Rows
/-! ### as plain data -/
mutual
def pyF : D → Option PyData
  | .non => some .none
  | .bl b => some (.bool b)
  | .int i => some (.int i)
  | .str s => some (.str s)
  | .tup xs => (pyFs xs).map .tuple
  | .lst xs => (pyFs xs).map .list
  | .ref _ => none
  | .ins _ _ _ => none
  | .dK _ _ => none
  | .dT _ _ => none
  | .glo _ => none
  | .ty _ => none
  | .ext ns => some (.list (ns.map .int))
  | .exc _ _ _ => none
def pyFs : List D → Option (List PyData)
  | [] => some []
  | x :: xs => match pyF x, pyFs xs with
    | some d, some ds => some (d :: ds)
    | _, _ => none
end
mutual
def pyD (st : Sto) : D → Option PyData
  | .non => some .none
  | .bl b => some (.bool b)
  | .int i => some (.int i)
  | .str s => some (.str s)
  | .tup xs => (pyDs st xs).map .tuple
  | .lst xs => (pyDs st xs).map .list
  | .ref n => match st[n]? with
    | some (.lst xs) => (pyFs xs).map .list
    | _ => none
  | .ins _ _ _ => none
  | .dK _ _ => none
  | .dT _ _ => none
  | .glo _ => none
  | .ty _ => none
  | .ext ns => some (.list (ns.map .int))
  | .exc _ _ _ => none
def pyDs (st : Sto) : List D → Option (List PyData)
  | [] => some []
  | x :: xs => match pyD st x, pyDs st xs with
    | some d, some ds => some (d :: ds)
    | _, _ => none
end
section
variable {K : PySem.W.Frag}
theorem dp_ints {H : Hp} : ∀ ns : List Int, DpAll K H (ns.map V.int) (ns.map PyData.int)
  | [] => .nil
  | n :: r => .cons (.int n) (dp_ints r)
theorem plain_ints : ∀ ns : List Int, PyData.plainAll (ns.map PyData.int) = true
  | [] => rfl
  | n :: r => by
    show (PyData.plain (.int n) && PyData.plainAll (r.map PyData.int)) = true
    rw [plain_ints r]
    rfl
mutual
theorem pyF_ok {w : Wd} : ∀ (d : D) (v : V) (p : PyData), Rel K w d v → pyF d = some p → Dp K w.H v p ∧ p.plain = true
  | .non, v, p, r, h => by
    unfold Rel at r
    subst r
    cases h
    exact ⟨.non, rfl⟩
  | .bl b, v, p, r, h => by
    unfold Rel at r
    subst r
    cases h
    exact ⟨.bl b, rfl⟩
  | .int b, v, p, r, h => by
    unfold Rel at r
    subst r
    cases h
    exact ⟨.int b, rfl⟩
  | .str b, v, p, r, h => by
    unfold Rel at r
    subst r
    cases h
    exact ⟨.str b, rfl⟩
  | .tup xs, v, p, r, h => by
    unfold Rel at r
    obtain ⟨a, vs, e, q, s⟩ := r
    subst e
    have h2 : (pyFs xs).map PyData.tuple = some p := h
    cases e2 : pyFs xs with
    | none =>
      rw [e2] at h2
      cases h2
    | some ds =>
      rw [e2] at h2
      cases h2
      obtain ⟨z1, z2⟩ := pyFs_ok xs vs ds s e2
      exact ⟨.tup (.inl (.inl (fr_here q))) z1, z2⟩
  | .lst xs, v, p, r, h => by
    unfold Rel at r
    obtain ⟨a, vs, e, q, s⟩ := r
    subst e
    have h2 : (pyFs xs).map PyData.list = some p := h
    cases e2 : pyFs xs with
    | none =>
      rw [e2] at h2
      cases h2
    | some ds =>
      rw [e2] at h2
      cases h2
      obtain ⟨z1, z2⟩ := pyFs_ok xs vs ds s e2
      exact ⟨.lst (.inl (.inl (fr_here q))) z1, z2⟩
  | .ref _, _, _, _, h => by cases h
  | .ins _ _ _, _, _, _, h => by cases h
  | .dK _ _, _, _, _, h => by cases h
  | .dT _ _, _, _, _, h => by cases h
  | .glo _, _, _, _, h => by cases h
  | .ty _, _, _, _, h => by cases h
  | .ext ns, v, p, r, h => by
    unfold Rel at r
    obtain ⟨a, e, q⟩ := r
    subst e
    cases h
    exact ⟨.lst (ex_l (fun _ _ => fr_here) q) (dp_ints ns), plain_ints ns⟩
  | .exc _ _ _, _, _, _, h => by cases h
theorem pyFs_ok {w : Wd} : ∀ (ds : List D) (vs : List V) (ps : List PyData), Rels K w ds vs → pyFs ds = some ps → DpAll K w.H vs ps ∧ PyData.plainAll ps = true
  | [], vs, ps, r, h => by
    unfold Rels at r
    subst r
    cases h
    exact ⟨.nil, rfl⟩
  | x :: xs, vs, ps, r, h => by
    obtain ⟨v, rr, e, q, s⟩ := r.inv
    subst e
    have h2 : (match pyF x, pyFs xs with
      | some d, some ds => some (d :: ds)
      | _, _ => none) = some ps := h
    split at h2
    · rename_i d ds e1 e2
      cases h2
      obtain ⟨z1, z2⟩ := pyF_ok x v d q e1
      obtain ⟨z3, z4⟩ := pyFs_ok xs rr ds s e2
      exact ⟨.cons z1 z3, by rw [PyData.plainAll, z2, z4]; rfl⟩
    · cases h2
end
mutual
theorem pyD_ok {w : Wd} {st : Sto} (c : Corr K w st) : ∀ (d : D) (v : V) (p : PyData), Rel K w d v → pyD st d = some p → Dp K w.H v p ∧ p.plain = true
  | .non, v, p, r, h => by
    unfold Rel at r
    subst r
    cases h
    exact ⟨.non, rfl⟩
  | .bl b, v, p, r, h => by
    unfold Rel at r
    subst r
    cases h
    exact ⟨.bl b, rfl⟩
  | .int b, v, p, r, h => by
    unfold Rel at r
    subst r
    cases h
    exact ⟨.int b, rfl⟩
  | .str b, v, p, r, h => by
    unfold Rel at r
    subst r
    cases h
    exact ⟨.str b, rfl⟩
  | .tup xs, v, p, r, h => by
    unfold Rel at r
    obtain ⟨a, vs, e, q, s⟩ := r
    subst e
    have h2 : (pyDs st xs).map PyData.tuple = some p := h
    cases e2 : pyDs st xs with
    | none =>
      rw [e2] at h2
      cases h2
    | some ds =>
      rw [e2] at h2
      cases h2
      obtain ⟨z1, z2⟩ := pyDs_ok c xs vs ds s e2
      exact ⟨.tup (.inl (.inl (fr_here q))) z1, z2⟩
  | .lst xs, v, p, r, h => by
    unfold Rel at r
    obtain ⟨a, vs, e, q, s⟩ := r
    subst e
    have h2 : (pyDs st xs).map PyData.list = some p := h
    cases e2 : pyDs st xs with
    | none =>
      rw [e2] at h2
      cases h2
    | some ds =>
      rw [e2] at h2
      cases h2
      obtain ⟨z1, z2⟩ := pyDs_ok c xs vs ds s e2
      exact ⟨.lst (.inl (.inl (fr_here q))) z1, z2⟩
  | .ref n, v, p, r, h => by
    unfold Rel at r
    obtain ⟨a, e, q⟩ := r
    subst e
    have h2 : (match st[n]? with
      | some (.lst xs) => (pyFs xs).map PyData.list
      | _ => none) = some p := h
    split at h2
    · rename_i xs hx
      obtain ⟨u, hu, vs, e3, s⟩ := c.obj n a _ q hx
      subst e3
      cases e2 : pyFs xs with
      | none =>
        rw [e2] at h2
        cases h2
      | some ds =>
        rw [e2] at h2
        cases h2
        obtain ⟨z1, z2⟩ := pyFs_ok xs vs ds s e2
        exact ⟨.lst (.inl (.inl hu)) z1, z2⟩
    · cases h2
  | .ins _ _ _, _, _, _, h => by cases h
  | .dK _ _, _, _, _, h => by cases h
  | .dT _ _, _, _, _, h => by cases h
  | .glo _, _, _, _, h => by cases h
  | .ty _, _, _, _, h => by cases h
  | .ext ns, v, p, r, h => by
    unfold Rel at r
    obtain ⟨a, e, q⟩ := r
    subst e
    cases h
    exact ⟨.lst (ex_l (fun _ _ => fr_here) q) (dp_ints ns), plain_ints ns⟩
  | .exc _ _ _, _, _, _, h => by cases h
theorem pyDs_ok {w : Wd} {st : Sto} (c : Corr K w st) : ∀ (ds : List D) (vs : List V) (ps : List PyData), Rels K w ds vs → pyDs st ds = some ps → DpAll K w.H vs ps ∧ PyData.plainAll ps = true
  | [], vs, ps, r, h => by
    unfold Rels at r
    subst r
    cases h
    exact ⟨.nil, rfl⟩
  | x :: xs, vs, ps, r, h => by
    obtain ⟨v, rr, e, q, s⟩ := r.inv
    subst e
    have h2 : (match pyD st x, pyDs st xs with
      | some d, some ds => some (d :: ds)
      | _, _ => none) = some ps := h
    split at h2
    · rename_i d ds e1 e2
      cases h2
      obtain ⟨z1, z2⟩ := pyD_ok c x v d q e1
      obtain ⟨z3, z4⟩ := pyDs_ok c xs rr ds s e2
      exact ⟨.cons z1 z3, by rw [PyData.plainAll, z2, z4]; rfl⟩
    · cases h2
end
end
section
variable {X : Cx} {Wx : WX} {a b c e o : Expr} {es : List Expr} {ma mb mc me : M D} {ms : M (List D)} {pos p2 : Pos}
/-- == (neg: !=) of plain data -/
def eqD (neg : Bool) : D2 := fun x y st => match pyD st x, pyD st y with
  | some p, some q => if Ok (min p.depth q.depth ≤ 60) then .ok (.bl (if neg = true then !PyData.eqv p q else PyData.eqv p q)) st else .bad
  | _, _ => .bad
theorem o_eqD {k : Nat} (hr : Room k X.A) : OpD X Wx (compareOp .Eq) (eqD false) := by
  intro pins s σ w st x y vx vy v u Q I c rx ry rv ru h
  unfold eqD at h
  split at h
  · rename_i p q e1 e2
    split at h
    · rename_i hd
      obtain ⟨z1, z2⟩ := pyD_ok c x vx p rx e1
      obtain ⟨z3, z4⟩ := pyD_ok c y vy q ry e2
      obtain ⟨as, t1⟩ := Dp.reads I p vx v z1 rv
      obtain ⟨bs, t2⟩ := Dp.reads I q vy u z3 ru
      refine PySem.SeqAt.eq_plain t1 t2 z2 z4 (by have := hr.units; have hd' : min p.depth q.depth ≤ 60 := hd; omega) ⟨.bl _, w.H, I, rfl, ?_⟩
      exact h w _ (.refl _) (rel_bl _ _) c
    · exact h.elim
  · exact h.elim
theorem o_neD {k : Nat} (hr : Room k X.A) : OpD X Wx (compareOp .NotEq) (eqD true) := by
  intro pins s σ w st x y vx vy v u Q I c rx ry rv ru h
  unfold eqD at h
  split at h
  · rename_i p q e1 e2
    split at h
    · rename_i hd
      obtain ⟨z1, z2⟩ := pyD_ok c x vx p rx e1
      obtain ⟨z3, z4⟩ := pyD_ok c y vy q ry e2
      obtain ⟨as, t1⟩ := Dp.reads I p vx v z1 rv
      obtain ⟨bs, t2⟩ := Dp.reads I q vy u z3 ru
      refine PySem.SeqAt.ne_plain t1 t2 z2 z4 (by have := hr.units; have hd' : min p.depth q.depth ≤ 60 := hd; omega) ⟨.bl _, w.H, I, rfl, ?_⟩
      exact h w _ (.refl _) (rel_bl _ _) c
    · exact h.elim
  · exact h.elim

/-! ### new objects -/
/-- a new list: live or frozen -/
def mkL (lv : Bool) (xs : List D) (st : Sto) : Res D := if lv = true then .ok (.ref st.length) (st ++ [.lst xs]) else .ok (.lst xs) st
theorem Corr.push {K : PySem.W.Frag} {w : Wd} {st : Sto} (c : Corr K w st) {p : Addr} (o : HO) (so : SO) (hp : w.H p = none) (r : RelO K w so o) :
    let w' : Wd := ⟨upd w.H p o, w.mu ++ [p], w.xi⟩
    w.Le w' ∧ Corr K w' (st ++ [so]) ∧ w'.mu[st.length]? = some p := by
  have pm : p ∉ w.mu := fun h => by
    obtain ⟨u, e⟩ := c.here h
    rw [hp] at e
    cases e
  have px : p ∉ w.xi := fun h => by
    obtain ⟨u, e⟩ := c.hid p h
    rw [hp] at e
    cases e
  have S : w.Sub ⟨upd w.H p o, w.mu ++ [p], w.xi⟩ := ⟨fun a u h => by
    obtain ⟨h1, h2, h3⟩ := Wd.fr_some.mp h
    have ne : a ≠ p := fun e => by
      rw [e, hp] at h3
      cases h3
    exact Wd.fr_some.mpr ⟨by
      intro hm
      rcases List.mem_append.mp hm with hm | hm
      · exact h1 hm
      · exact ne (List.mem_singleton.mp hm), h2, by
      show upd w.H p o a = some u
      rw [upd_ne ne]
      exact h3⟩, List.prefix_append _ _⟩
  refine ⟨⟨S, rfl, fun a ha => ?_⟩, ⟨?_, ?_, fun a ha => ?_, fun a ha => ?_, fun n a u h1 h2 => ?_⟩, ?_⟩
  · show upd w.H p o a = w.H a
    exact upd_ne fun e => px (by rw [← e]; exact ha)
  · show (w.mu ++ [p]).Nodup
    rw [List.nodup_append]
    refine ⟨c.nd, List.pairwise_singleton _ _, fun x hx y hy e => ?_⟩
    rw [List.mem_singleton.mp hy] at e
    exact pm (by rw [← e]; exact hx)
  · show (st ++ [so]).length = (w.mu ++ [p]).length
    rw [List.length_append, List.length_append, c.len]
    rfl
  · rcases List.mem_append.mp ha with ha | ha
    · exact c.apart a ha
    · rw [List.mem_singleton.mp ha]
      exact px
  · obtain ⟨u, e⟩ := c.hid a ha
    refine ⟨u, ?_⟩
    show upd w.H p o a = some u
    rw [upd_ne fun q => px (by rw [← q]; exact ha)]
    exact e
  · have h1' : (w.mu ++ [p])[n]? = some a := h1
    by_cases hn : n < w.mu.length
    · rw [List.getElem?_append_left hn] at h1'
      rw [List.getElem?_append_left (by rw [c.len]; exact hn)] at h2
      obtain ⟨v, e, r⟩ := c.obj n a u h1' h2
      refine ⟨v, ?_, RelO.sub S r⟩
      show upd w.H p o a = some v
      rw [upd_ne fun q => pm (by rw [← q]; exact List.mem_of_getElem? h1')]
      exact e
    · have hn' : n = w.mu.length := by
        have := (List.getElem?_eq_some_iff.mp h1').1
        rw [List.length_append] at this
        simp only [List.length_cons, List.length_nil] at this
        omega
      subst hn'
      have e1 : p = a := by simpa using h1'
      subst e1
      have e2 : so = u := by
        rw [← c.len] at h2
        simpa using h2
      subst e2
      exact ⟨o, upd_same, RelO.sub S r⟩
  · show (w.mu ++ [p])[st.length]? = some p
    rw [c.len]
    simp
theorem post_newL {w : Wd} {σ : L2.St} {st : Sto} {lv : Bool} {xs : List D} {vs : List V} {Q : VK} (c : Corr X.K w st) (r : Rels X.K w xs vs) (h : Post X.K (Rel X.K) w σ Wx Q (mkL lv xs st)) (p : Addr) (hp : w.H p = none) : Q (.ref p) (upd w.H p (.lst vs)) := by
  cases lv with
  | true =>
    have h2 : Post X.K (Rel X.K) w σ Wx Q (.ok (.ref st.length) (st ++ [.lst xs])) := h
    obtain ⟨l, c', e⟩ := c.push (.lst vs) (.lst xs) hp ⟨vs, rfl, r⟩
    exact h2 _ (.ref p) l (by unfold Rel; exact ⟨p, rfl, e⟩) c'
  | false =>
    have h2 : Post X.K (Rel X.K) w σ Wx Q (.ok (.lst xs) st) := h
    obtain ⟨l, c', e⟩ := c.new (.lst vs) hp
    exact h2 _ (.ref p) l (by unfold Rel; exact ⟨p, vs, rfl, e, r.le l⟩) c'
theorem post_newT {w : Wd} {σ : L2.St} {st : Sto} {xs : List D} {vs : List V} {Q : VK} (c : Corr X.K w st) (r : Rels X.K w xs vs) (h : Post X.K (Rel X.K) w σ Wx Q (.ok (.tup xs) st)) (p : Addr) (hp : w.H p = none) : Q (.ref p) (upd w.H p (.tup vs)) := by
  obtain ⟨l, c', e⟩ := c.new (.tup vs) hp
  exact h _ (.ref p) l (by unfold Rel; exact ⟨p, vs, rfl, e, r.le l⟩) c'
def eLst (lv : Bool) (ms : M (List D)) : M D := fun env st => (ms env st).bind fun xs s1 => if Ok (xs.length ≤ sizeLine) then mkL lv xs s1 else .bad
def eTup (ms : M (List D)) : M D := fun env st => (ms env st).bind fun xs s1 => if Ok (xs.length ≤ sizeLine) then .ok (.tup xs) s1 else .bad
theorem ce_lst {lv : Bool} (h : CA X Wx es ms) : CE X Wx (.List es pos) (eLst lv ms) := PE.mono (pe_lst h) fun σ H Q h => by
  obtain ⟨mu, xi, env, st, re, c, h⟩ := h
  refine tG_mono (tG_bind (R := Rels X.K) re c h) fun v H1 ⟨mu1, xi1, d, st1, l1, r1, c1, re1, p1⟩ => ?_
  by_cases hl : Ok (d.length ≤ sizeLine)
  · rw [if_pos hl] at p1
    exact ⟨by rw [← r1.length]; exact hl, fun p hp => post_newL c1 r1 p1 p hp⟩
  · rw [if_neg hl] at p1
    exact p1.elim
theorem ce_tup {k} (h : CA X Wx es ms) : CE X Wx (.Tuple es k pos) (eTup ms) := PE.mono (pe_tup h) fun σ H Q h => by
  obtain ⟨mu, xi, env, st, re, c, h⟩ := h
  refine tG_mono (tG_bind (R := Rels X.K) re c h) fun v H1 ⟨mu1, xi1, d, st1, l1, r1, c1, re1, p1⟩ => ?_
  by_cases hl : Ok (d.length ≤ sizeLine)
  · rw [if_pos hl] at p1
    exact ⟨by rw [← r1.length]; exact hl, fun p hp => post_newT c1 r1 p1 p hp⟩
  · rw [if_neg hl] at p1
    exact p1.elim

/-! ### texts: +, order, in -/
def addS : D2
  | .str x, .str y, st => if Ok (x.length + y.length ≤ sizeLine) then .ok (.str (x ++ y)) st else .bad
  | _, _, _ => .bad
theorem o_addS : OpD X Wx (binaryOp .Add) addS := opd_of op_add_str fun w σ st x y vx vy Q c rx ry h => by
  cases x with
  | str i =>
    cases y with
    | str j =>
      unfold Rel at rx ry
      have h2 : Post X.K (Rel X.K) w σ Wx Q (if Ok (i.length + j.length ≤ sizeLine) then .ok (.str (i ++ j)) st else .bad) := h
      by_cases q : Ok (i.length + j.length ≤ sizeLine)
      · rw [if_pos q] at h2
        exact ⟨i, j, rx, ry, q, h2 w _ (.refl _) (rel_str _ _) c⟩
      · rw [if_neg q] at h2
        exact h2.elim
    | _ => exact h.elim
  | _ => exact h.elim
/-- tuple + tuple -/
def addT : D2 := fun x y st => match seqT x, seqT y with
  | some xs, some ys => if Ok (xs.length + ys.length ≤ sizeLine) then .ok (.tup (xs ++ ys)) st else .bad
  | _, _ => .bad
theorem Rels.nil_iff {K : PySem.W.Frag} {w : Wd} {xs : List D} {vs : List V} (r : Rels K w xs vs) : vs = [] ↔ xs = [] := by
  have h := r.length
  cases xs <;> cases vs <;> simp_all
theorem o_addT : OpD X Wx (binaryOp .Add) addT := opd_of op_catA fun w σ st x y vx vy Q c rx ry h => by
  unfold addT at h
  split at h
  · rename_i xs ys e1 e2
    split at h
    · rename_i hz
      obtain ⟨a1, v1, ea, q1, s1⟩ := seqT_ok rx e1
      obtain ⟨a2, v2, eb, q2, s2⟩ := seqT_ok ry e2
      have ex : x = .tup xs := by
        cases x with
        | tup z => exact congrArg D.tup (Option.some.inj e1)
        | _ => cases e1
      have ey : y = .tup ys := by
        cases y with
        | tup z => exact congrArg D.tup (Option.some.inj e2)
        | _ => cases e2
      subst ex ey ea eb
      refine ⟨a1, a2, v1, v2, rfl, rfl, q1, q2, by rw [← s1.length, ← s2.length]; exact hz, fun e0 => ?_, fun e0 e3 => ?_, fun e0 e3 p hp => ?_⟩
      · have e4 := s1.nil_iff.mp e0
        subst e4
        exact h w _ (.refl _) ry c
      · have e4 := s2.nil_iff.mp e3
        subst e4
        rw [List.append_nil] at h
        exact h w _ (.refl _) rx c
      · exact post_newT c (s1.append s2) h p hp
    · exact h.elim
  · exact h.elim
/-- list + list -/
theorem op_catS : OpR X (binaryOp .Add) (fun x y H Q => ∃ l b xs ys, x = .ref l ∧ y = .ref b ∧ SqL X.K H l xs ∧ SqL X.K H b ys ∧ xs.length + ys.length ≤ sizeLine ∧ ∀ p, H p = none → Q (.ref p) (upd H p (.lst (xs ++ ys)))) := by
  intro pins s σ H x y v u Q I rx ry h
  obtain ⟨l, b, xs, ys, rfl, rfl, hl, hb, hz, q⟩ := h
  cases rx
  cases ry
  obtain ⟨its, r1, p1, _⟩ := I.list hl
  obtain ⟨its2, r2, p2, _⟩ := I.list hb
  have hlen := r1.length
  have hlen2 := r2.length
  obtain ⟨⟨cls, dd, data, sl⟩, ho, hc, n, hd⟩ := id p1.isList
  obtain ⟨⟨cls2, dd2, data2, sl2⟩, ho2, hc2, n2, hd2⟩ := id p2.isList
  simp only at hc hd hc2 hd2
  subst hc hd hc2 hd2
  have e : its.toArray ++ its2.toArray = (its ++ its2).toArray := by simp
  refine PySem.concat_meets ⟨_, ho, rfl⟩ ⟨_, ho2, rfl⟩ PySem.noFill_list_add PySem.seq_list_add PySem.F.slot_list_add PySem.F.entry_list_add (PySem.F.args_list_add_2 _ _)
    (PyProof.Rows.list_addW l b its.toArray its2.toArray n n2 dd dd2 sl sl2 (by rw [List.size_toArray, List.size_toArray, ← hlen, ← hlen2]; exact hz)) ⟨ho, ho2, ?_⟩
  rw [e]
  exact ⟨.ref s.heap.objs.size, _, I.lnew (t' := s.toks) (r1.append r2) (by rw [List.length_append]; exact hz), rfl, q _ I.fresh⟩
def addL : D2 := fun x y st => match seqL st x, seqL st y with
  | some xs, some ys => if Ok (xs.length + ys.length ≤ sizeLine) then .ok (.lst (xs ++ ys)) st else .bad
  | _, _ => .bad
theorem o_addL : OpD X Wx (binaryOp .Add) addL := opd_of op_catS fun w σ st x y vx vy Q c rx ry h => by
  unfold addL at h
  split at h
  · rename_i xs ys e1 e2
    split at h
    · rename_i hz
      obtain ⟨a1, v1, ea, q1, s1⟩ := seqL_ok c rx e1
      obtain ⟨a2, v2, eb, q2, s2⟩ := seqL_ok c ry e2
      subst ea eb
      exact ⟨a1, a2, v1, v2, rfl, rfl, q1, q2, by rw [← s1.length, ← s2.length]; exact hz, fun p hp => post_newL (lv := false) c (s1.append s2) h p hp⟩
    · exact h.elim
  · exact h.elim
end
end ND
end
noncomputable section
namespace ND
open PySem L2 PyProof.Rows
section
variable {X : Cx} {Wx : WX} {a b c e o : Expr} {es : List Expr} {ma mb mc me : M D} {ms : M (List D)} {pos p2 : Pos} {lo hi : Option Expr}
/-! ### subscripts -/
def ixD : D2 := fun x y st => match y with
  | .int i => match x with
    | .str z => if Ok (z.length ≤ sizeLine) then (match atI z.cps.toList i with
      | some ch => .ok (.str ⟨#[ch]⟩) st
      | none => .bad) else .bad
    | .tup xs => (match atI xs i with
      | some d => .ok d st
      | none => .bad)
    | _ => match seqL st x with
      | some xs => (match atI xs i with
        | some d => .ok d st
        | none => .bad)
      | none => .bad
  | _ => .bad
theorem Rels.atI {K : PySem.W.Frag} {w : Wd} {xs : List D} {vs : List V} {i : Int} {d : D} (r : Rels K w xs vs) (h : L2.atI xs i = some d) : ∃ v, L2.atI vs i = some v ∧ Rel K w d v := by
  unfold L2.atI at h ⊢
  rw [← r.length]
  cases e : ixN xs.length i with
  | none =>
    rw [e] at h
    cases h
  | some j =>
    rw [e] at h
    exact r.get h
theorem ixD_ok {w : Wd} {σ : L2.St} {st : Sto} {x y : D} {vx vy : V} {Q : VK} (c : Corr X.K w st) (rx : Rel X.K w x vx) (ry : Rel X.K w y vy) (h : Post X.K (Rel X.K) w σ Wx Q (ixD x y st)) : rIx X.K vx vy w.H Q := by
  unfold ixD at h
  cases y with
  | int i =>
    unfold Rel at ry
    subst ry
    have seqCase : ∀ xs, seqL st x = some xs → Post X.K (Rel X.K) w σ Wx Q (match L2.atI xs i with
        | some d => .ok d st
        | none => .bad) → rIx X.K vx (.int i) w.H Q := by
      intro xs hx h
      cases ha : L2.atI xs i with
      | none =>
        rw [ha] at h
        exact h.elim
      | some d =>
        rw [ha] at h
        obtain ⟨a1, v1, ea, q1, s1⟩ := seqL_ok c rx hx
        obtain ⟨v, hv, rv⟩ := s1.atI ha
        exact .inl ⟨a1, v1, i, v, ea, rfl, q1, hv, h w v (.refl _) rv c⟩
    have seqCase2 : Post X.K (Rel X.K) w σ Wx Q (match seqL st x with
      | some xs => (match L2.atI xs i with
        | some d => .ok d st
        | none => .bad)
      | none => .bad) → rIx X.K vx (.int i) w.H Q := by
      intro h
      cases hx : seqL st x with
      | none =>
        rw [hx] at h
        exact h.elim
      | some xs =>
        rw [hx] at h
        exact seqCase xs hx h
    cases x with
    | str z =>
      dsimp only at h
      unfold Rel at rx
      by_cases hz : Ok (z.length ≤ sizeLine)
      · rw [if_pos hz] at h
        cases ha : L2.atI z.cps.toList i with
        | none =>
          rw [ha] at h
          exact h.elim
        | some ch =>
          rw [ha] at h
          exact .inr (.inr ⟨z, i, ch, rx, rfl, hz, ha, h w _ (.refl _) (rel_str _ _) c⟩)
      · rw [if_neg hz] at h
        exact h.elim
    | tup xs =>
      dsimp only at h
      cases ha : L2.atI xs i with
      | none =>
        rw [ha] at h
        exact h.elim
      | some d =>
        rw [ha] at h
        obtain ⟨a1, v1, ea, q1, s1⟩ := seqT_ok (xs := xs) rx rfl
        obtain ⟨v, hv, rv⟩ := s1.atI ha
        exact .inr (.inl ⟨a1, v1, i, v, ea, rfl, q1, hv, h w v (.refl _) rv c⟩)
    | _ => exact seqCase2 h
  | _ => exact h.elim
theorem ce_ix (ha : CE X Wx a ma) (hb : CE X Wx b mb) (hs : PlainIx b := by intro _ _; rfl) : CE X Wx (.Subscript a b pos) (e2 ixD ma mb) := PE.mono (pe_ix ix_seq ha hb hs) fun σ H Q h => by
  obtain ⟨mu, xi, env, st, re, c, h⟩ := h
  exact tG_mono (tG_bind (R := Rel X.K) re c h) fun v H1 ⟨mu1, xi1, d, st1, l1, r1, c1, re1, p1⟩ =>
    tG_mono (tG_bind (R := Rel X.K) re1 c1 p1) fun v2 H2 ⟨mu2, xi2, d2, st2, l2, r2, c2, re2, p2⟩ => ixD_ok (w := ⟨H2, mu2, xi2⟩) c2 (r1.le l2) r2 p2
/-- xs[i] = v -/
def setL (x y z : D) (st : Sto) : Option Sto := match x, y with
  | .ref n, .int i => match st[n]? with
    | some (.lst xs) => match ixN xs.length i with
      | some j => some (st.set n (.lst (xs.set j z)))
      | none => none
    | _ => none
  | _, _ => none
/-- the store's n-th object changes -/
theorem Corr.set {K : PySem.W.Frag} {w : Wd} {st : Sto} (c : Corr K w st) {n : Nat} {p : Addr} {o : HO} {so : SO} (hn : w.mu[n]? = some p) (hs : n < st.length) (r : RelO K w so o) :
    let w' : Wd := ⟨upd w.H p o, w.mu, w.xi⟩
    w.Le w' ∧ Corr K w' (st.set n so) := by
  have pm : p ∈ w.mu := List.mem_of_getElem? hn
  have px : p ∉ w.xi := c.apart p pm
  have S : w.Sub ⟨upd w.H p o, w.mu, w.xi⟩ := ⟨fun a u h => by
    obtain ⟨h1, h2, h3⟩ := Wd.fr_some.mp h
    have ne : a ≠ p := fun e => h1 (by rw [e]; exact pm)
    exact Wd.fr_some.mpr ⟨h1, h2, by
      show upd w.H p o a = some u
      rw [upd_ne ne]
      exact h3⟩, List.prefix_rfl⟩
  refine ⟨⟨S, rfl, fun a ha => ?_⟩, ⟨c.nd, by rw [List.length_set]; exact c.len, c.apart, fun a ha => ?_, fun k a u h1 h2 => ?_⟩⟩
  · show upd w.H p o a = w.H a
    exact upd_ne fun e => px (by rw [← e]; exact ha)
  · obtain ⟨u, e⟩ := c.hid a ha
    refine ⟨u, ?_⟩
    show upd w.H p o a = some u
    rw [upd_ne fun q => px (by rw [← q]; exact ha)]
    exact e
  · by_cases q : n = k
    · subst q
      have e1 : p = a := Option.some.inj (hn.symm.trans h1)
      subst e1
      rw [List.getElem?_set_self hs] at h2
      cases h2
      exact ⟨o, upd_same, RelO.sub S r⟩
    · rw [List.getElem?_set_ne q] at h2
      obtain ⟨v, e, r'⟩ := c.obj k a u h1 h2
      refine ⟨v, ?_, RelO.sub S r'⟩
      have ne : a ≠ p := fun e => by
        subst e
        obtain ⟨l1, e1⟩ := List.getElem?_eq_some_iff.mp hn
        obtain ⟨l2, e2⟩ := List.getElem?_eq_some_iff.mp h1
        exact q ((List.getElem_inj c.nd).mp (e1.trans e2.symm))
      show upd w.H p o a = some v
      rw [upd_ne ne]
      exact e
theorem setL_ok {w : Wd} {st st' : Sto} {x y z : D} {vx vy vz : V} (c : Corr X.K w st) (rx : Rel X.K w x vx) (ry : Rel X.K w y vy) (rz : Rel X.K w z vz) (h : setL x y z st = some st') {Q : Hp → Prop} (q : ∀ w', w.Le w' → Corr X.K w' st' → Q w'.H) :
    rSetL vx vy vz w.H Q := by
  unfold setL at h
  split at h
  · rename_i n i
    split at h
    · rename_i xs hx
      split at h
      · rename_i j hj
        cases h
        unfold Rel at rx ry
        obtain ⟨a, e, hn⟩ := rx
        obtain ⟨u, hu, vs, e2, s⟩ := c.obj n a _ hn hx
        subst e2
        obtain ⟨l, c'⟩ := c.set (o := .lst (vs.set j vz)) (so := .lst (xs.set j z)) hn (List.getElem?_eq_some_iff.mp hx).1 ⟨_, rfl, s.set rz j⟩
        exact ⟨a, vs, i, j, e, ry, hu, by rw [← s.length]; exact hj, q _ l c'⟩
      · cases h
    · cases h
  · cases h

/-! ### slices -/
abbrev RO : Wd → Option Int → Option Int → Prop := fun _ a b => a = b
abbrev CO (X : Cx) (Wx : WX) (e : Option Expr) (m : M (Option Int)) : Prop := PO X e (tG X.K RO Wx m)
def oNone : M (Option Int) := fun _ st => .ok none st
def oSome (m : M D) : M (Option Int) := fun env st => (m env st).bind fun d s1 => match d with
  | .int i => .ok (some i) s1
  | _ => .bad
theorem PO.mono {e : Option Expr} {t t' : TO} (h : PO X e t) (i : ∀ σ H Q, t' σ H Q → t σ H Q) : PO X e t' := ⟨fun pins s σ H Q I q => h.run pins s σ H Q I (i σ H Q q)⟩
theorem co_none : CO X Wx none oNone := PO.mono po_none fun σ H Q h => by
  obtain ⟨mu, xi, env, st, re, c, h⟩ := h
  exact h ⟨H, mu, xi⟩ none (.refl _) rfl c
theorem co_some (ha : CE X Wx a ma) : CO X Wx (some a) (oSome ma) := PO.mono (po_some ha) fun σ H Q h => by
  obtain ⟨mu, xi, env, st, re, c, h⟩ := h
  refine tG_mono (tG_bind (R := Rel X.K) re c h) fun v H1 ⟨mu1, xi1, d, st1, l1, r1, c1, re1, p1⟩ => ?_
  cases d with
  | int i =>
    unfold Rel at r1
    exact ⟨i, r1, p1 ⟨H1, mu1, xi1⟩ (some i) (.refl _) rfl c1⟩
  | _ => exact p1.elim
def cutD {α : Type} (xs : List α) (lo hi : Option Int) : List α := (xs.drop (HT.sIx xs.length 0 lo)).take (HT.sIx xs.length xs.length hi - HT.sIx xs.length 0 lo)
def cutStr (z : Str) (lo hi : Option Int) : Str := ⟨(cutD z.cps.toList lo hi).toArray⟩
def slD (x : D) (lo hi : Option Int) (st : Sto) : Res D := match x with
  | .str z => if Ok (z.length ≤ sizeLine) then .ok (.str (cutStr z lo hi)) st else .bad
  | .tup xs => .ok (.tup (cutD xs lo hi)) st
  | _ => match seqL st x with
    | some xs => .ok (.lst (cutD xs lo hi)) st
    | none => .bad
def eSl (ma : M D) (ml mh : M (Option Int)) : M D := fun env st => (ma env st).bind fun x s1 => (ml env s1).bind fun lo s2 => (mh env s2).bind fun hi s3 => slD x lo hi s3
/-- .. a new list that lives -/
def slDL (x : D) (lo hi : Option Int) (st : Sto) : Res D := match seqL st x with
  | some xs => mkL true (cutD xs lo hi) st
  | none => .bad
theorem cut_rel {K : PySem.W.Frag} {w : Wd} {xs : List D} {vs : List V} (r : Rels K w xs vs) (lo hi : Option Int) : Rels K w (cutD xs lo hi) (cutV vs lo hi) := by
  unfold cutD cutV
  rw [← r.length]
  exact (r.drop _).take _
theorem cutStr_eq (z : Str) (lo hi : Option Int) : cutS z lo hi = cutStr z lo hi := by
  unfold cutS cutStr cutD
  rw [Array.length_toList]
  rfl
theorem slD_ok {w : Wd} {σ : L2.St} {st : Sto} {x : D} {vx : V} {lo hi : Option Int} {Q : VK} (c : Corr X.K w st) (rx : Rel X.K w x vx) (h : Post X.K (Rel X.K) w σ Wx Q (slD x lo hi st)) :
    (rSlL X.K vx lo hi w.H Q ∨ rSlA X.K vx lo hi w.H Q) ∨ rSlS vx lo hi w.H Q := by
  have lst : (∀ xs, seqL st x = some xs → Post X.K (Rel X.K) w σ Wx Q (.ok (.lst (cutD xs lo hi)) st) → rSlL X.K vx lo hi w.H Q) := by
    intro xs hx h
    obtain ⟨a1, v1, ea, q1, s1⟩ := seqL_ok c rx hx
    exact ⟨a1, v1, ea, q1, fun p hp => post_newL (lv := false) c (cut_rel s1 lo hi) h p hp⟩
  have lst2 : Post X.K (Rel X.K) w σ Wx Q (match seqL st x with
    | some xs => .ok (.lst (cutD xs lo hi)) st
    | none => .bad) → rSlL X.K vx lo hi w.H Q := by
    intro h
    cases hx : seqL st x with
    | none =>
      rw [hx] at h
      exact h.elim
    | some xs =>
      rw [hx] at h
      exact lst xs hx h
  unfold slD at h
  cases x with
  | str z =>
    dsimp only at h
    unfold Rel at rx
    by_cases hz : Ok (z.length ≤ sizeLine)
    · rw [if_pos hz] at h
      refine .inr ⟨z, rx, hz, ?_⟩
      rw [cutStr_eq]
      exact h w _ (.refl _) (rel_str _ _) c
    · rw [if_neg hz] at h
      exact h.elim
  | tup xs =>
    dsimp only at h
    obtain ⟨a1, v1, ea, q1, s1⟩ := seqT_ok (xs := xs) rx rfl
    refine .inl (.inr ⟨a1, v1, ea, q1, fun hw => ?_, fun hw p hp => post_newT c (cut_rel s1 lo hi) h p hp⟩)
    have e : cutD xs lo hi = xs := by
      rw [← s1.length] at hw
      unfold cutD
      rw [hw.1, hw.2, List.drop_zero, Nat.sub_zero, List.take_length]
    rw [e] at h
    rw [ea] at rx
    exact h w _ (.refl _) rx c
  | _ => exact .inl (.inl (lst2 h))
theorem ce_sl {ml mh : M (Option Int)} (ha : CE X Wx a ma) (hl : CO X Wx lo ml) (hh : CO X Wx hi mh) : CE X Wx (.Subscript a (.Slice lo hi none p2) pos) (eSl ma ml mh) := PE.mono (pe_slice ((sl_list.or sl_tupA).or sl_str) ha hl hh) fun σ H Q h => by
  obtain ⟨mu, xi, env, st, re, c, h⟩ := h
  exact tG_mono (tG_bind (R := Rel X.K) re c h) fun v H1 ⟨mu1, xi1, d, st1, l1, r1, c1, re1, p1⟩ =>
    tG_mono (tG_bind (R := RO) re1 c1 p1) fun v2 H2 ⟨mu2, xi2, d2, st2, l2, r2, c2, re2, p2⟩ =>
      tG_mono (tG_bind (R := RO) re2 c2 p2) fun v3 H3 ⟨mu3, xi3, d3, st3, l3, r3, c3, re3, p3⟩ => by
        cases r2
        cases r3
        exact slD_ok (w := ⟨H3, mu3, xi3⟩) c3 ((r1.le l2).le l3) p3

/-! ### calls of built-ins -/
abbrev DF : Type := List D → Sto → Res D
def CallD (X : Cx) (Wx : WX) (f : Value) (g : DF) : Prop :=
  ∀ (pins : List (Addr × Obj)) (s : Shared) (σ : L2.St) (w : Wd) (st : Sto) (ds : List D) (vs : List V) (us : List Value) (Q : VK), Inv X pins σ w.H s → Corr X.K w st → Rels X.K w ds vs → Vals vs us →
    Post X.K (Rel X.K) w σ Wx Q (g ds st) → wpAny (model X.prog X.w) X.A (call f us) (EP X pins σ Q) X.xe s
theorem calld_of {f : Value} {g : DF} {r : List V → Hp → VK → Prop} (ho : CallR X f r) (sd : ∀ (w : Wd) (σ : L2.St) (st : Sto) (ds : List D) (vs : List V) (Q : VK), Corr X.K w st → Rels X.K w ds vs → Post X.K (Rel X.K) w σ Wx Q (g ds st) → r vs w.H Q) : CallD X Wx f g := by
  intro pins s σ w st ds vs us Q I c r rv h
  exact ho pins s σ w.H vs us Q I rv (sd w σ st ds vs Q c r h)
theorem CallD.ite {f : Value} {g1 g2 : DF} (p : List D → Sto → Bool) (h1 : CallD X Wx f g1) (h2 : CallD X Wx f g2) : CallD X Wx f (fun ds st => if p ds st = true then g1 ds st else g2 ds st) := by
  intro pins s σ w st ds vs us Q I c r rv h
  dsimp only at h
  by_cases q : p ds st = true
  · rw [if_pos q] at h
    exact h1 pins s σ w st ds vs us Q I c r rv h
  · rw [if_neg q] at h
    exact h2 pins s σ w st ds vs us Q I c r rv h
def eC (g : DF) (ms : M (List D)) : M D := fun env st => (ms env st).bind fun ds s1 => g ds s1
theorem ce_callB {x : Str} {p : Pos} {id : String} {g : DF} (hc : CallD X Wx (.builtin id) g) (hm : X.mg x = none) (hv : bootBuiltins x = some (.builtin id)) (ha : CA X Wx (e :: es) ms) (hg : Gl X x := by rfl) (hn : x ≠ "__name__" := by decide) (hdb : (x == ("__debug__" : Str)) = false := by decide)
    (he : starEach (e :: es) X.env = (false, eval e X.env) :: starEach es X.env := by rfl) (hpl : (backTo pos (starEach es X.env)).any (·.1) = false := by rfl) : CE X Wx (.Call (.Name x p) (e :: es) [] pos) (eC g ms) := by
  refine ⟨fun pins s σ H Q I h => ?_⟩
  obtain ⟨mu, xi, env, st, re, c, h⟩ := h
  refine wpAny_Call_Name_kw (ld_blt I hg hm hv ?_ hn hdb)
  exact PyProof.Rows.callWith_builtin1 (thn (ha.run pos pins s σ H _ I (tG_bind (R := Rels X.K) re c h)) fun us s1 ⟨vs, H1, I1, rv, mu1, xi1, d, st1, l1, r1, c1, re1, p1⟩ => hc pins s1 σ ⟨H1, mu1, xi1⟩ st1 d vs us Q I1 c1 r1 rv p1) he hpl
theorem ce_callTy {x : Str} {p : Pos} {T : String} {g : DF} (hc : CallD X Wx (.type T) g) (hm : X.mg x = none) (hv : bootBuiltins x = some (.type T)) (ha : CA X Wx (e :: es) ms) (hg : Gl X x := by rfl) (hn : x ≠ "__name__" := by decide) (hdb : (x == ("__debug__" : Str)) = false := by decide)
    (he : starEach (e :: es) X.env = (false, eval e X.env) :: starEach es X.env := by rfl) (hpl : (backTo pos (starEach es X.env)).any (·.1) = false := by rfl) : CE X Wx (.Call (.Name x p) (e :: es) [] pos) (eC g ms) := by
  refine ⟨fun pins s σ H Q I h => ?_⟩
  obtain ⟨mu, xi, env, st, re, c, h⟩ := h
  refine wpAny_Call_Name_kw (ld_blt I hg hm hv ?_ hn hdb)
  exact PyProof.Rows.callWith_type1 (thn (ha.run pos pins s σ H _ I (tG_bind (R := Rels X.K) re c h)) fun us s1 ⟨vs, H1, I1, rv, mu1, xi1, d, st1, l1, r1, c1, re1, p1⟩ => hc pins s1 σ ⟨H1, mu1, xi1⟩ st1 d vs us Q I1 c1 r1 rv p1) he hpl
theorem Rels.one {K : PySem.W.Frag} {w : Wd} {x : D} {vs : List V} (h : Rels K w [x] vs) : ∃ v, vs = [v] ∧ Rel K w x v := by
  obtain ⟨v, r, e, q, t⟩ := h.inv
  unfold Rels at t
  subst t
  exact ⟨v, e, q⟩
theorem Rels.two {K : PySem.W.Frag} {w : Wd} {x y : D} {vs : List V} (h : Rels K w [x, y] vs) : ∃ v u, vs = [v, u] ∧ Rel K w x v ∧ Rel K w y u := by
  obtain ⟨v, r, e, q, t⟩ := h.inv
  obtain ⟨u, e2, q2⟩ := t.one
  subst e2
  exact ⟨v, u, e, q, q2⟩
def lenD : DF
  | [.str z], st => if Ok (z.length ≤ sizeLine) then .ok (.int z.length) st else .bad
  | [.tup xs], st => .ok (.int xs.length) st
  | [x], st => match seqL st x with
    | some xs => .ok (.int xs.length) st
    | none => .bad
  | _, _ => .bad
theorem c_len : CallD X Wx (.builtin "len") lenD := calld_of (call_len_seq.or call_len_str) fun w σ st ds vs Q c r h => by
  have lst : ∀ x, Rels X.K w [x] vs → Post X.K (Rel X.K) w σ Wx Q (match seqL st x with
      | some xs => .ok (.int xs.length) st
      | none => .bad) → ∃ p ys, vs = [.ref p] ∧ (SqL X.K w.H p ys ∨ SqT X.K w.H p ys) ∧ Q (.int ys.length) w.H := by
    intro x r h
    obtain ⟨v, e, rx⟩ := r.one
    subst e
    cases hx : seqL st x with
    | none =>
      rw [hx] at h
      exact h.elim
    | some xs =>
      rw [hx] at h
      obtain ⟨a1, v1, ea, q1, s1⟩ := seqL_ok c rx hx
      subst ea
      refine ⟨a1, v1, rfl, .inl q1, ?_⟩
      rw [← s1.length]
      exact h w _ (.refl _) (rel_int _ _) c
  cases ds with
  | nil => exact h.elim
  | cons x t =>
    cases t with
    | cons y t => cases x <;> exact h.elim
    | nil =>
      cases x with
      | str z =>
        obtain ⟨v, e, rx⟩ := r.one
        unfold Rel at rx
        subst rx
        have h2 : Post X.K (Rel X.K) w σ Wx Q (if Ok (z.length ≤ sizeLine) then .ok (.int z.length) st else .bad) := h
        by_cases hz : Ok (z.length ≤ sizeLine)
        · rw [if_pos hz] at h2
          exact .inr ⟨z, e, hz, h2 w _ (.refl _) (rel_int _ _) c⟩
        · rw [if_neg hz] at h2
          exact h2.elim
      | tup xs =>
        obtain ⟨v, e, rx⟩ := r.one
        obtain ⟨a1, v1, ea, q1, s1⟩ := seqT_ok (xs := xs) rx rfl
        subst ea
        have h2 : Post X.K (Rel X.K) w σ Wx Q (.ok (.int xs.length) st) := h
        refine .inl ⟨a1, v1, e, .inr q1, ?_⟩
        rw [← s1.length]
        exact h2 w _ (.refl _) (rel_int _ _) c
      | _ => exact .inl (lst _ r h)
/-- one int in -/
def i1 (g : Int → D) : DF
  | [.int i], st => .ok (g i) st
  | _, _ => .bad
theorem c_i1 {f : Value} {g : Int → D} {g' : Int → V} (ho : CallR X f (fun xs H Q => ∃ i, xs = [.int i] ∧ Q (g' i) H)) (hg : ∀ w i, Rel X.K w (g i) (g' i)) : CallD X Wx f (i1 g) := calld_of ho fun w σ st ds vs Q c r h => by
  unfold i1 at h
  split at h
  · rename_i i
    obtain ⟨v, e, rx⟩ := r.one
    unfold Rel at rx
    subst rx
    exact ⟨i, e, h w _ (.refl _) (hg _ _) c⟩
  · exact h.elim
def absI : Int → Int := fun i => if i < 0 then -i else i
theorem c_abs : CallD X Wx (.builtin "abs") (i1 fun i => .int (absI i)) := c_i1 call_abs fun w i => rel_int _ _
/-- two ints in -/
def i2f (g : Int → Int → D) : DF
  | [.int i, .int j], st => .ok (g i j) st
  | _, _ => .bad
theorem c_i2 {f : Value} {g : Int → Int → D} {g' : Int → Int → V} (ho : CallR X f (fun xs H Q => ∃ i j, xs = [.int i, .int j] ∧ Q (g' i j) H)) (hg : ∀ w i j, Rel X.K w (g i j) (g' i j)) : CallD X Wx f (i2f g) := calld_of ho fun w σ st ds vs Q c r h => by
  unfold i2f at h
  split at h
  · rename_i i j
    obtain ⟨v, u, e, rx, ry⟩ := r.two
    unfold Rel at rx ry
    subst rx ry
    exact ⟨i, j, e, h w _ (.refl _) (hg _ _ _) c⟩
  · exact h.elim
def maxI (i j : Int) : Int := if j > i then j else i
def minI (i j : Int) : Int := if j < i then j else i
theorem c_max2 (hc : X.calm = true) : CallD X Wx (.builtin "max") (i2f fun i j => .int (maxI i j)) := c_i2 (call_max2 hc) fun w i j => rel_int _ _
theorem c_min2 (hc : X.calm = true) : CallD X Wx (.builtin "min") (i2f fun i j => .int (minI i j)) := c_i2 (call_min2 hc) fun w i j => rel_int _ _
def intD : DF
  | [.int i], st => .ok (.int i) st
  | [.bl k], st => .ok (.int (if k then 1 else 0)) st
  | _, _ => .bad
theorem c_int : CallD X Wx (.type "int") intD := calld_of call_int1 fun w σ st ds vs Q c r h => by
  unfold intD at h
  split at h
  · rename_i i
    obtain ⟨v, e, rx⟩ := r.one
    unfold Rel at rx
    subst rx
    exact .inl ⟨i, e, h w _ (.refl _) (rel_int _ _) c⟩
  · rename_i k
    obtain ⟨v, e, rx⟩ := r.one
    unfold Rel at rx
    subst rx
    exact .inr ⟨k, e, h w _ (.refl _) (rel_int _ _) c⟩
  · exact h.elim
/-- the text of an int -/
def strI (i : Int) : Str := Str.ofString (toString i)
def strD : DF
  | [.int i], st => if Ok (i.natAbs.log2 < 1920) then .ok (.str (strI i)) st else .bad
  | _, _ => .bad
theorem c_strI : CallD X Wx (.type "str") strD := calld_of call_str_int fun w σ st ds vs Q c r h => by
  unfold strD at h
  split at h
  · rename_i i
    split at h
    · rename_i hz
      obtain ⟨v, e, rx⟩ := r.one
      unfold Rel at rx
      subst rx
      exact ⟨i, e, hz, h w _ (.refl _) (rel_str _ _) c⟩
    · exact h.elim
  · exact h.elim
/-- list(x), tuple(x) -/
def seqX (st : Sto) (x : D) : Option (List D) := match seqL st x with
  | some xs => some xs
  | none => seqT x
def listD (lv : Bool) : DF
  | [x], st => match seqX st x with
    | some xs => mkL lv xs st
    | none => .bad
  | _, _ => .bad
theorem seqX_ok {K : PySem.W.Frag} {w : Wd} {st : Sto} {d : D} {v : V} {xs : List D} (c : Corr K w st) (r : Rel K w d v) (h : seqX st d = some xs) : ∃ a vs, v = .ref a ∧ (SqL K w.H a vs ∨ SqT K w.H a vs) ∧ Rels K w xs vs := by
  unfold seqX at h
  split at h
  · rename_i ys hy
    cases h
    obtain ⟨a, vs, e, q, s⟩ := seqL_ok c r hy
    exact ⟨a, vs, e, .inl q, s⟩
  · obtain ⟨a, vs, e, q, s⟩ := seqT_ok r h
    exact ⟨a, vs, e, .inr q, s⟩
theorem c_list {lv : Bool} : CallD X Wx (.type "list") (listD lv) := calld_of call_list_of fun w σ st ds vs Q c r h => by
  unfold listD at h
  split at h
  · rename_i x
    split at h
    · rename_i xs hx
      obtain ⟨v, e, rx⟩ := r.one
      obtain ⟨a, ys, ea, q, s⟩ := seqX_ok c rx hx
      subst ea
      exact ⟨a, ys, e, q, fun p hp => post_newL c s h p hp⟩
    · exact h.elim
  · exact h.elim
def tupD : DF
  | [.tup xs], st => .ok (.tup xs) st
  | [x], st => match seqL st x with
    | some xs => .ok (.tup xs) st
    | none => .bad
  | _, _ => .bad
theorem c_tuple : CallD X Wx (.type "tuple") tupD := calld_of call_tuple_of fun w σ st ds vs Q c r h => by
  unfold tupD at h
  split at h
  · rename_i xs
    obtain ⟨v, e, rx⟩ := r.one
    obtain ⟨a1, v1, ea, q1, s1⟩ := seqT_ok (xs := xs) rx rfl
    subst ea
    exact ⟨a1, v1, e, .inr ⟨q1, h w _ (.refl _) rx c⟩⟩
  · rename_i x _
    split at h
    · rename_i xs hx
      obtain ⟨v, e, rx⟩ := r.one
      obtain ⟨a, ys, ea, q, s⟩ := seqL_ok c rx hx
      subst ea
      exact ⟨a, ys, e, .inl ⟨q, fun p hp => post_newT c s h p hp⟩⟩
    · exact h.elim
  · exact h.elim
/-- sorted(xs) of ints -/
def allInts : List D → Option (List Int)
  | [] => some []
  | .int i :: r => (allInts r).map (i :: ·)
  | _ :: _ => none
theorem allInts_ok : ∀ {xs : List D} {ns : List Int}, allInts xs = some ns → xs = ns.map .int
  | [], ns, h => by
    cases h
    rfl
  | x :: r, ns, h => by
    cases x with
    | int i =>
      have h2 : (allInts r).map (i :: ·) = some ns := h
      cases e : allInts r with
      | none =>
        rw [e] at h2
        cases h2
      | some ms =>
        rw [e] at h2
        cases h2
        rw [allInts_ok e]
        rfl
    | _ => cases h
theorem allInts_map : ∀ ns : List Int, allInts (ns.map .int) = some ns
  | [] => rfl
  | i :: r => by
    show (allInts (r.map .int)).map (i :: ·) = some (i :: r)
    rw [allInts_map r]
    rfl
def sortI (ns : List Int) : List Int := ns.mergeSort fun i j => decide (i ≤ j)
theorem sortI_same {ns ms : List Int} (p : ms.Perm ns) (s : ms.Pairwise (· ≤ ·)) : ms = sortI ns := by
  refine PySem.W.ksm_same (p.trans (List.mergeSort_perm ns _).symm) s ?_
  have h := List.pairwise_mergeSort (le := fun i j : Int => decide (i ≤ j)) (fun a b c h1 h2 => decide_eq_true (Int.le_trans (of_decide_eq_true h1) (of_decide_eq_true h2)))
    (fun a b => by
      rcases Int.le_total a b with h | h
      · rw [decide_eq_true h]
        rfl
      · rw [decide_eq_true h, Bool.or_true]) ns
  exact h.imp fun h => of_decide_eq_true h
def sortedD (lv : Bool) : DF
  | [x], st => match seqL st x with
    | some xs => match allInts xs with
      | some ns => mkL lv ((sortI ns).map .int) st
      | none => .bad
    | none => .bad
  | _, _ => .bad
theorem c_sorted {lv : Bool} : CallD X Wx (.builtin "sorted") (sortedD lv) := calld_of cr_sortedI fun w σ st ds vs Q c r h => by
  unfold sortedD at h
  split at h
  · rename_i x
    split at h
    · rename_i xs hx
      split at h
      · rename_i ns hn
        obtain ⟨v, e, rx⟩ := r.one
        obtain ⟨a, ys, ea, q, s⟩ := seqL_ok c rx hx
        subst ea
        rw [allInts_ok hn] at s
        have e2 := s.ints
        subst e2
        refine ⟨a, ns, e, q, fun ns' p pm ss hp => ?_⟩
        rw [sortI_same pm ss]
        exact post_newL c (Rels.ofInts _) h p hp
      · exact h.elim
    · exact h.elim
  · exact h.elim
end
end ND
end
noncomputable section
namespace ND
open PySem L2 PyProof.Rows
section
variable {K : PySem.W.Frag}
def PostS (K : PySem.W.Frag) (w : Wd) (Wx : WX) (E : Ends) : SRes → Prop
  | .nx e st => ∀ w' σ', w.Le w' → REnv K w' e σ' → Corr K w' st → E.nx σ' w'.H
  | .rt d st => ∀ w' v, w.Le w' → Rel K w' d v → Corr K w' st → E.rt v w'.H
  | .bk e st => ∀ w' σ', w.Le w' → REnv K w' e σ' → Corr K w' st → E.bk σ' w'.H
  | .ct e st => ∀ w' σ', w.Le w' → REnv K w' e σ' → Corr K w' st → E.ct σ' w'.H
  | .exc k fs xs e st => ∀ w' σ' dd, w.Le w' → REnv K w' e σ' → Corr K w' st → XRel K w' fs xs dd → Wx (.ref (gaS K k)) dd σ' w'.H
  | .bad => False
theorem PostS.le {w w1 : Wd} {Wx : WX} {E : Ends} {r : SRes} (h : PostS K w Wx E r) (l : w.Le w1) : PostS K w1 Wx E r := by
  cases r with
  | nx e st => exact fun w' σ' l' => h w' σ' (l.trans l')
  | rt d st => exact fun w' v l' => h w' v (l.trans l')
  | bk e st => exact fun w' σ' l' => h w' σ' (l.trans l')
  | ct e st => exact fun w' σ' l' => h w' σ' (l.trans l')
  | exc k fs xs e st => exact fun w' σ' dd l' => h w' σ' dd (l.trans l')
  | bad => exact h
abbrev MS : Type := Env → Sto → SRes
def tS (K : PySem.W.Frag) (Wx : WX) (m : MS) : TS := fun E σ H => ∃ mu xi env st, REnv K ⟨H, mu, xi⟩ env σ ∧ Corr K ⟨H, mu, xi⟩ st ∧ PostS K ⟨H, mu, xi⟩ Wx E (m env st)
def Res.toS {α : Type} (r : Res α) (env : Env) (f : α → Sto → SRes) : SRes := match r with
  | .ok a st => f a st
  | .exc k fs xs st => .exc k fs xs env st
  | .bad => .bad
@[simp] theorem Res.toS_ok {α : Type} (a : α) (st : Sto) (env : Env) (f : α → Sto → SRes) : (Res.ok a st).toS env f = f a st := rfl
@[simp] theorem Res.toS_exc {α : Type} (k : String) (fs : List String) (xs : List D) (st : Sto) (env : Env) (f : α → Sto → SRes) : (Res.exc k fs xs st : Res α).toS env f = .exc k fs xs env st := rfl
@[simp] theorem Res.toS_bad {α : Type} (env : Env) (f : α → Sto → SRes) : (Res.bad : Res α).toS env f = .bad := rfl
theorem tG_bindS {α ν : Type} {R : Wd → α → ν → Prop} {w : Wd} {σ : L2.St} {Wx : WX} {E : Ends} {env : Env} {st : Sto} {ma : M α} {k : α → Sto → SRes}
    (re : REnv K w env σ) (c : Corr K w st) (h : PostS K w Wx E ((ma env st).toS env k)) :
    tG K R Wx ma σ w.H fun v H1 => ∃ mu xi a st1, w.Le ⟨H1, mu, xi⟩ ∧ R ⟨H1, mu, xi⟩ a v ∧ Corr K ⟨H1, mu, xi⟩ st1 ∧ REnv K ⟨H1, mu, xi⟩ env σ ∧ PostS K ⟨H1, mu, xi⟩ Wx E (k a st1) := by
  refine ⟨w.mu, w.xi, env, st, re, c, ?_⟩
  cases e : ma env st with
  | ok a st1 =>
    rw [e] at h
    exact fun w' v l r c' => ⟨w'.mu, w'.xi, a, st1, l, r, c', re.le l, PostS.le h l⟩
  | exc k fs xs st1 =>
    rw [e] at h
    exact fun w' dd l c' x => h w' σ dd l (re.le l) c' x
  | bad =>
    rw [e] at h
    exact h
end
abbrev CS (X : Cx) (Wx : WX) (s : Stmt) (m : MS) : Prop := PS X s (tS X.K Wx m)
abbrev CSs (X : Cx) (Wx : WX) (s : List Stmt) (m : MS) : Prop := PSs X s (tS X.K Wx m)
section
variable {X : Cx} {Wx : WX} {a b c e o : Expr} {es : List Expr} {ma mb mc me : M D} {ms : M (List D)} {pos p2 : Pos} {s : Stmt} {ss s1 s2 : List Stmt} {m n : MS} {t : M Bool}
/-! ### rows of statements -/
def sNil : MS := fun env st => .nx env st
def sSeq (m n : MS) : MS := fun env st => match m env st with
  | .nx e s => n e s
  | r => r
theorem css_nil : CSs X Wx [] sNil := PSs.mono pss_nil fun E σ H h => by
  obtain ⟨mu, xi, env, st, re, c, h⟩ := h
  exact h ⟨H, mu, xi⟩ σ (.refl _) re c
theorem css_cons (h1 : CS X Wx s m) (h2 : CSs X Wx ss n) : CSs X Wx (s :: ss) (sSeq m n) := PSs.mono (pss_cons h1 h2) fun E σ H h => by
  obtain ⟨mu, xi, env, st, re, c, h⟩ := h
  refine ⟨mu, xi, env, st, re, c, ?_⟩
  unfold sSeq at h
  cases e : m env st with
  | nx e1 st1 =>
    rw [e] at h
    exact fun w' σ' l re' c' => ⟨w'.mu, w'.xi, e1, st1, re', c', PostS.le h l⟩
  | _ =>
    rw [e] at h
    exact h
theorem css_one (h1 : CS X Wx s m) : CSs X Wx [s] m := PSs.mono (pss_one h1) fun E σ H h => h
def sNever : MS := fun _ _ => .bad
theorem cs_never : CS X Wx s sNever := PS.mono ps_never fun E σ H h => by
  obtain ⟨mu, xi, env, st, re, c, h⟩ := h
  exact h.elim
theorem css_never : CSs X Wx ss sNever := PSs.mono pss_never fun E σ H h => by
  obtain ⟨mu, xi, env, st, re, c, h⟩ := h
  exact h.elim
theorem cs_pass : CS X Wx (.Pass pos) sNil := PS.mono ps_pass fun E σ H h => by
  obtain ⟨mu, xi, env, st, re, c, h⟩ := h
  exact h ⟨H, mu, xi⟩ σ (.refl _) re c
def sBrk : MS := fun env st => .bk env st
def sCnt : MS := fun env st => .ct env st
theorem cs_break : CS X Wx (.Break pos) sBrk := PS.mono ps_break fun E σ H h => by
  obtain ⟨mu, xi, env, st, re, c, h⟩ := h
  exact h ⟨H, mu, xi⟩ σ (.refl _) re c
theorem cs_continue : CS X Wx (.Continue pos) sCnt := PS.mono ps_continue fun E σ H h => by
  obtain ⟨mu, xi, env, st, re, c, h⟩ := h
  exact h ⟨H, mu, xi⟩ σ (.refl _) re c
/-! ### return, an expression, if -/
def sRet (ma : M D) : MS := fun env st => (ma env st).toS env fun d s1 => .rt d s1
theorem cs_ret (ha : CE X Wx a ma) : CS X Wx (.Return (some a) pos) (sRet ma) := PS.mono (ps_ret ha) fun E σ H h => by
  obtain ⟨mu, xi, env, st, re, c, h⟩ := h
  exact tG_mono (tG_bindS (R := Rel X.K) re c h) fun v H1 ⟨mu1, xi1, d, st1, l1, r1, c1, re1, p1⟩ => p1 ⟨H1, mu1, xi1⟩ v (.refl _) r1 c1
def sRetN : MS := fun _ st => .rt .non st
theorem cs_retN : CS X Wx (.Return none pos) sRetN := PS.mono ps_retN fun E σ H h => by
  obtain ⟨mu, xi, env, st, re, c, h⟩ := h
  exact h ⟨H, mu, xi⟩ _ (.refl _) (by unfold Rel; rfl) c
def sDrop (ma : M D) : MS := fun env st => (ma env st).toS env fun _ s1 => .nx env s1
theorem cs_expr (ha : CE X Wx a ma) (hs : swapsWith a none pos.line X.env = pure false := by rfl) : CS X Wx (.Expr a pos) (sDrop ma) := PS.mono (ps_expr ha hs) fun E σ H h => by
  obtain ⟨mu, xi, env, st, re, c, h⟩ := h
  exact tG_mono (tG_bindS (R := Rel X.K) re c h) fun v H1 ⟨mu1, xi1, d, st1, l1, r1, c1, re1, p1⟩ => p1 ⟨H1, mu1, xi1⟩ σ (.refl _) re1 c1
theorem cs_doc {x j pos pos'} : CS X Wx (.Expr (.Constant (.str x) j pos) pos') sNil := PS.mono ps_doc fun E σ H h => by
  obtain ⟨mu, xi, env, st, re, c, h⟩ := h
  exact h ⟨H, mu, xi⟩ σ (.refl _) re c
def sIf (t : M Bool) (m n : MS) : MS := fun env st => (t env st).toS env fun b s1 => if b = true then m env s1 else n env s1
theorem cs_if (hc : CT X Wx a t) (h1 : CSs X Wx s1 m) (h2 : CSs X Wx s2 n) : CS X Wx (.If a s1 s2 pos) (sIf t m n) := PS.mono (ps_if hc h1 h2) fun E σ H h => by
  obtain ⟨mu, xi, env, st, re, c, h⟩ := h
  refine tG_mono (tG_bindS (R := RB) re c h) fun v H1 ⟨mu1, xi1, d, st1, l1, r1, c1, re1, p1⟩ => ?_
  cases r1
  cases v with
  | true => exact ⟨mu1, xi1, env, st1, re1, c1, p1⟩
  | false => exact ⟨mu1, xi1, env, st1, re1, c1, p1⟩
/-! ### assignments -/
def sSet (i : Nat) (ma : M D) : MS := fun env st => (ma env st).toS env fun d s1 => .nx (env.set i (some d)) s1
theorem cs_set (i : Nat) {x : Str} {pos' : Pos} (ha : CE X Wx a ma) (hN : X.N.Nodup) (hi : X.N[i]? = some x := by rfl) (hx : Loc X.env.scope x := by first | exact Or.inl rfl | exact Or.inr rfl) (hs : swapsWith a (some (.Name x pos')) pos.line X.env = pure false := by rfl)
    (hf : X.fn x = true ∨ X.env.scope.names.lookup x = some .local := by first | exact .inl rfl | exact .inr rfl | assumption) : CS X Wx (.Assign [.Name x pos'] a pos) (sSet i ma) := PS.mono (ps_set hN hi hx ha hs hf) fun E σ H h => by
  obtain ⟨mu, xi, env, st, re, c, h⟩ := h
  exact tG_mono (tG_bindS (R := Rel X.K) re c h) fun v H1 ⟨mu1, xi1, d, st1, l1, r1, c1, re1, p1⟩ => p1 ⟨H1, mu1, xi1⟩ _ (.refl _) (re1.set i r1) c1
/-- targets of names: the slots vs are stored -/
abbrev GD : Type := D → Env → Option Env
def Keeps (vs : List Nat) (σ σ' : L2.St) : Prop := σ'.length = σ.length ∧ ∀ i, i ∉ vs → σ'[i]? = σ[i]?
theorem Keeps.wipe {σ σ' : L2.St} {vs : List Nat} (h : Keeps vs σ σ') : L2.wipe σ' vs = L2.wipe σ vs := by
  refine List.ext_getElem? fun i => ?_
  by_cases hi : i ∈ vs
  · by_cases hl : i < σ.length
    · rw [wipe_at hi (by rw [h.1]; exact hl), wipe_at hi hl]
    · rw [List.getElem?_eq_none (by rw [wipe_length, h.1]; exact Nat.le_of_not_lt hl), List.getElem?_eq_none (by rw [wipe_length]; exact Nat.le_of_not_lt hl)]
  · rw [wipe_off hi, wipe_off hi]
    exact h.2 i hi
where
  wipe_at {σ : L2.St} {i : Nat} : ∀ {vs : List Nat}, i ∈ vs → i < σ.length → (L2.wipe σ vs)[i]? = some none
    | v :: vs, hi, hl => by
      unfold L2.wipe
      by_cases e : v = i
      · subst e
        exact List.getElem?_set_self (by rw [wipe_length]; exact hl)
      · rw [List.getElem?_set_ne e]
        rcases List.mem_cons.mp hi with q | q
        · exact absurd q.symm e
        · exact wipe_at q hl
  wipe_off {σ : L2.St} {i : Nat} : ∀ {vs : List Nat}, i ∉ vs → (L2.wipe σ vs)[i]? = σ[i]?
    | [], _ => rfl
    | v :: vs, hi => by
      unfold L2.wipe
      rw [List.getElem?_set_ne fun e => hi (by rw [e]; exact List.mem_cons_self)]
      exact wipe_off fun q => hi (List.mem_cons_of_mem _ q)
def tGt (K : PySem.W.Frag) (g : GD) (vs : List Nat) : TG := fun v σ H Q => ∃ mu xi env st d env', REnv K ⟨H, mu, xi⟩ env σ ∧ Corr K ⟨H, mu, xi⟩ st ∧ Rel K ⟨H, mu, xi⟩ d v ∧ g d env = some env' ∧ ∀ σ', REnv K ⟨H, mu, xi⟩ env' σ' → Keeps vs σ σ' → Q σ' H
theorem PG.mono {tg : Expr} {t t' : TG} (h : PG X tg t) (i : ∀ v σ H Q, t' v σ H Q → t v σ H Q) : PG X tg t' := ⟨fun pins s σ H v u Q I r q => h.run pins s σ H v u Q I r (i v σ H Q q)⟩
theorem PGs.mono {tg : List Expr} {t t' : TGs} (h : PGs X tg t) (i : ∀ v σ H Q, t' v σ H Q → t v σ H Q) : PGs X tg t' := ⟨fun pins s σ H v u Q I r q => h.run pins s σ H v u Q I r (i v σ H Q q)⟩
abbrev CG (X : Cx) (tg : Expr) (g : GD) (vs : List Nat) : Prop := PG X tg (tGt X.K g vs)
def gNm (i : Nat) : GD := fun d env => some (env.set i (some d))
theorem cg_name (i : Nat) {x : Str} (hN : X.N.Nodup) (hi : X.N[i]? = some x := by rfl) (hx : Loc X.env.scope x := by first | exact Or.inl rfl | exact Or.inr rfl) (hf : X.fn x = true ∨ X.env.scope.names.lookup x = some .local := by first | exact .inl rfl | exact .inr rfl | assumption) : CG X (.Name x pos) (gNm i) [i] :=
  PG.mono (pg_name hN hi hx hf) fun v σ H Q h => by
    obtain ⟨mu, xi, env, st, d, env', re, c, r, e, q⟩ := h
    cases e
    exact q _ (re.set i r) ⟨List.length_set, fun j hj => List.getElem?_set_ne fun e => hj (by rw [e]; exact List.mem_cons_self)⟩
abbrev GDs : Type := List D → Env → Option Env
def tGts (K : PySem.W.Frag) (g : GDs) (us : List Nat) : TGs := fun vs σ H Q => ∃ mu xi env st ds env', REnv K ⟨H, mu, xi⟩ env σ ∧ Corr K ⟨H, mu, xi⟩ st ∧ Rels K ⟨H, mu, xi⟩ ds vs ∧ g ds env = some env' ∧ ∀ σ', REnv K ⟨H, mu, xi⟩ env' σ' → Keeps us σ σ' → Q σ' H
abbrev CGs (X : Cx) (tg : List Expr) (g : GDs) (us : List Nat) : Prop := PGs X tg (tGts X.K g us)
def gsNil : GDs := fun ds env => match ds with
  | [] => some env
  | _ => none
def gsCons (g : GD) (gs : GDs) : GDs := fun ds env => match ds with
  | d :: r => (g d env).bind fun e => gs r e
  | [] => none
theorem cgs_nil : CGs X [] gsNil [] := PGs.mono pgs_nil fun v σ H Q h => by
  obtain ⟨mu, xi, env, st, ds, env', re, c, r, e, q⟩ := h
  cases ds with
  | nil =>
    cases e
    unfold Rels at r
    exact ⟨r, q _ re ⟨rfl, fun _ _ => rfl⟩⟩
  | cons x t => cases e
theorem cgs_cons {g : GD} {gs : GDs} {us vs : List Nat} (h1 : CG X e g us) (h2 : CGs X es gs vs) (hs : (assignEach (e :: es) X.env).map (·.2) = assign e X.env :: (assignEach es X.env).map (·.2) := by rfl) : CGs X (e :: es) (gsCons g gs) (us ++ vs) := PGs.mono (pgs_cons h1 h2 hs) fun v σ H Q h => by
  obtain ⟨mu, xi, env, st, ds, env', re, c, r, e, q⟩ := h
  cases ds with
  | nil => cases e
  | cons x t =>
    obtain ⟨v1, rr, e1, r1, r2⟩ := r.inv
    have e2 : (g x env).bind (fun e => gs t e) = some env' := e
    cases e3 : g x env with
    | none =>
      rw [e3] at e2
      cases e2
    | some env1 =>
      rw [e3] at e2
      exact ⟨v1, rr, e1, mu, xi, env, st, x, env1, re, c, r1, e3, fun σ' re' k1 => ⟨mu, xi, env1, st, t, env', re', c, r2, e2, fun σ'' re'' k2 => q σ'' re'' ⟨k2.1.trans k1.1, fun j hj =>
        (k2.2 j fun z => hj (List.mem_append_right _ z)).trans (k1.2 j fun z => hj (List.mem_append_left _ z))⟩⟩⟩
def gTu (n : Nat) (gs : GDs) : GD := fun d env => match d with
  | .tup xs => if xs.length = n then gs xs env else none
  | _ => none
theorem cg_tup {gs : GDs} {us : List Nat} {k : Nat} {n : Nat} (hc : X.calm = true) (h : CGs X es gs us) (hn : (assignEach es X.env).length = n := by rfl) (hst : (assignEach es X.env).findIdx? (·.1) = none := by rfl) : CG X (.Tuple es k pos) (gTu n gs) us := PG.mono (pg_tup hc h hn hst) fun v σ H Q h => by
  obtain ⟨mu, xi, env, st, d, env', re, c, r, e, q⟩ := h
  cases d with
  | tup xs =>
    have e2 : (if xs.length = n then gs xs env else none) = some env' := e
    by_cases hl : xs.length = n
    · rw [if_pos hl] at e2
      obtain ⟨a1, v1, ea, q1, s1⟩ := seqT_ok (xs := xs) r rfl
      exact ⟨a1, v1, ea, q1, by rw [← s1.length]; exact hl, mu, xi, env, st, xs, env', re, c, s1, e2, q⟩
    · rw [if_neg hl] at e2
      cases e2
  | _ => cases e
def sTgt (ma : M D) (g : GD) : MS := fun env st => (ma env st).toS env fun d s1 => match g d env with
  | some e => .nx e s1
  | none => .bad
theorem cs_tgt {tg : Expr} {g : GD} {us : List Nat} (ha : CE X Wx a ma) (hg : CG X tg g us) (hs : swapsWithSole [tg] a pos.line X.env = pure false := by rfl) (hw : swappedStores [tg] a X.env = pure none := by rfl)
    (h1 : (assignEach [tg] X.env).map (·.2) = [assign tg X.env] := by rfl) : CS X Wx (.Assign [tg] a pos) (sTgt ma g) := PS.mono (ps_asg ha hg hs hw h1) fun E σ H h => by
  obtain ⟨mu, xi, env, st, re, c, h⟩ := h
  refine tG_mono (tG_bindS (R := Rel X.K) re c h) fun v H1 ⟨mu1, xi1, d, st1, l1, r1, c1, re1, p1⟩ => ?_
  cases eg : g d env with
  | none =>
    rw [eg] at p1
    exact p1.elim
  | some env' =>
    rw [eg] at p1
    exact ⟨mu1, xi1, env, st1, d, env', re1, c1, r1, eg, fun σ' re' _ => p1 ⟨H1, mu1, xi1⟩ σ' (.refl _) re' c1⟩
/-- a, b = x, y -/
def sPar (i j : Nat) (ms : M (List D)) : MS := fun env st => (ms env st).toS env fun ds s1 => match ds with
  | [x, y] => .nx ((env.set i (some x)).set j (some y)) s1
  | _ => .bad
theorem cs_par (i j : Nat) {x y : Str} {px py pt : Pos} {kt k2 pt2} (hc : X.calm = true) (hN : X.N.Nodup) (ha : CA X Wx [a, b] ms) (hi : X.N[i]? = some x := by rfl) (hj : X.N[j]? = some y := by rfl) (hij : i ≠ j := by decide)
    (hx : X.env.scope.names.lookup x = some .local := by rfl) (hy : X.env.scope.names.lookup y = some .local := by rfl)
    (hw : swappedStores [.Tuple [.Name x px, .Name y py] kt pt] (.Tuple [a, b] k2 pt2) X.env = pure (some [x, y]) := by rfl) (hxy : (x == y) = false := by decide) : CS X Wx (.Assign [.Tuple [.Name x px, .Name y py] kt pt] (.Tuple [a, b] k2 pt2) pos) (sPar i j ms) := PS.mono (ps_par hc hN hi hj hij hx hy ha hw) fun E σ H h => by
  obtain ⟨mu, xi, env, st, re, c, h⟩ := h
  refine tG_mono (tG_bindS (R := Rels X.K) re c h) fun v H1 ⟨mu1, xi1, d, st1, l1, r1, c1, re1, p1⟩ => ?_
  split at p1
  · obtain ⟨v, u, e, q1, q2⟩ := r1.two
    exact ⟨v, u, e, p1 ⟨H1, mu1, xi1⟩ _ (.refl _) ((re1.set i q1).set j q2) c1⟩
  · exact p1.elim
/-- o[i] = e, a list's item -/
def sSetIx (mo mi me : M D) : MS := fun env st => (me env st).toS env fun z s1 => (mo env s1).toS env fun x s2 => (mi env s2).toS env fun y s3 => match setL x y z s3 with
  | some s4 => .nx env s4
  | none => .bad
theorem cs_setIx {i : Expr} {mo mi : M D} (he : CE X Wx e me) (ho : CE X Wx o mo) (hi : CE X Wx i mi) (hs : swapsWithSole [.Subscript o i p2] e pos.line X.env = pure false := by rfl) (hw : swappedStores [.Subscript o i p2] e X.env = pure none := by rfl)
    (ha : ∀ v, assign (.Subscript o i p2) X.env v = (do
      let ov ← holding [v] (eval o X.env)
      let iv ← holding [v, ov] (eval i X.env)
      standAt p2
      holding [v, ov, iv] (setItem ov iv v)
      release [v, ov, iv] []) := by intro _; rfl) : CS X Wx (.Assign [.Subscript o i p2] e pos) (sSetIx mo mi me) := PS.mono (ps_asg he (pg_sub ho hi set_list ha) hs hw) fun E σ H h => by
  obtain ⟨mu, xi, env, st, re, c, h⟩ := h
  exact tG_mono (tG_bindS (R := Rel X.K) re c h) fun v H1 ⟨mu1, xi1, d, st1, l1, r1, c1, re1, p1⟩ =>
    tG_mono (tG_bindS (R := Rel X.K) re1 c1 p1) fun v2 H2 ⟨mu2, xi2, d2, st2, l2, r2, c2, re2, p2⟩ =>
      tG_mono (tG_bindS (R := Rel X.K) re2 c2 p2) fun v3 H3 ⟨mu3, xi3, d3, st3, l3, r3, c3, re3, p3⟩ => by
        cases es : setL d2 d3 d st3 with
        | none =>
          rw [es] at p3
          exact p3.elim
        | some s4 =>
          rw [es] at p3
          exact setL_ok (w := ⟨H3, mu3, xi3⟩) c3 (r2.le l3) r3 ((r1.le l2).le l3) es fun w' l c' => p3 w' σ l (re3.le l) c'
/-- x op= e -/
def sAug (i : Nat) (g : D2) (me : M D) : MS := fun env st => match env[i]? with
  | some (some x) => (me env st).toS env fun y s1 => (g x y s1).toS env fun z s2 => .nx (env.set i (some z)) s2
  | _ => .bad
theorem cs_aug (i : Nat) {x : Str} {op : Operator} {pos' : Pos} {g : D2} (ho : OpD X Wx (inplaceOp op) g) (he : CE X Wx e me) (hN : X.N.Nodup) (hi : X.N[i]? = some x := by rfl) (hx : Loc X.env.scope x := by first | exact Or.inl rfl | exact Or.inr rfl)
    (hf : X.fn x = true ∨ X.env.scope.names.lookup x = some .local := by first | exact .inl rfl | exact .inr rfl | assumption) : CS X Wx (.AugAssign (.Name x pos') op e pos) (sAug i g me) := by
  refine ⟨fun pins s σ H E I h => ?_⟩
  obtain ⟨mu, xi, env, st, re, c, h⟩ := h
  unfold sAug at h
  split at h
  · rename_i d hd
    obtain ⟨v, e1, rd⟩ := re.2 i d hd
    obtain ⟨m, hn, hl⟩ := I.loc
    have vis : Vis X.env.scope x := by
      rcases hx with k | k
      · exact .inl k
      · exact .inr (.inl k)
    obtain ⟨u, r, l⟩ := hl i x v hi e1 vis
    refine wpAny_AugAssign_Name ?_
    have go : wpAny (model X.prog X.w) X.A (eval e X.env) (fun w s₂ => wpAny (model X.prog X.w) X.A (inplaceOp op u w) (fun r s₃ => wpAny (model X.prog X.w) X.A (storeName X.env x r) (fun _ => SP X pins E .next) X.xe s₃) X.xe s₂) X.xe s := by
      refine thn (he.run pins s σ H _ I (tG_bindS (R := Rel X.K) re c h)) fun w' s1 ⟨y, H1, I1, ry, mu1, xi1, d1, st1, l1, r1, c1, re1, p1⟩ => ?_
      have q : Post X.K (Rel X.K) ⟨H1, mu1, xi1⟩ σ Wx (fun z H2 => ∃ mu2 xi2 d2 st2, Wd.Le ⟨H1, mu1, xi1⟩ ⟨H2, mu2, xi2⟩ ∧ Rel X.K ⟨H2, mu2, xi2⟩ d2 z ∧ Corr X.K ⟨H2, mu2, xi2⟩ st2 ∧ REnv X.K ⟨H2, mu2, xi2⟩ env σ ∧ PostS X.K ⟨H2, mu2, xi2⟩ Wx E (.nx (env.set i (some d2)) st2)) (g d d1 st1) := by
        cases eg : g d d1 st1 with
        | ok a st2 =>
          rw [eg] at p1
          exact fun w' v l r c' => ⟨w'.mu, w'.xi, a, st2, l, r, c', re1.le l, PostS.le p1 l⟩
        | exc k fs xs st2 =>
          rw [eg] at p1
          exact fun w' dd l c' x => p1 w' σ dd l (re1.le l) c' x
        | bad =>
          rw [eg] at p1
          exact p1
      refine thn (ho pins s1 σ ⟨H1, mu1, xi1⟩ st1 d d1 v y u w' _ I1 c1 (rd.le l1) r1 r ry q) fun z s2 ⟨zv, H2, I2, rz, mu2, xi2, d2, st2, l2, r2, c2, re2, p2⟩ => ?_
      exact store_ok I2 hN hi hx rz (fun s3 I3 => ⟨_, H2, I3, p2 ⟨H2, mu2, xi2⟩ _ (.refl _) (re2.set i r2) c2⟩) hf
    rcases l with ⟨hk, hm⟩ | ⟨hk, c, hc, hcell⟩
    · exact wpAny_loadName_local I.ok.kind hk hn hm go
    · rcases hk with hk | hk
      · exact wpAny_loadName_cell I.ok.kind hk hc hcell go
      · rcases hx with k | k
        · have : X.env.scope.names.lookup x = some .free := hk
          rw [k] at this
          cases this
        · have : X.env.scope.names.lookup x = some .free := hk
          rw [k] at this
          cases this
  · exact h.elim

/-! ### while -/
def whileR (t : M Bool) (body : MS) : Nat → MS
  | 0 => fun _ _ => .bad
  | n + 1 => fun env st => (t env st).toS env fun b s1 => if b = true then (match body env s1 with
    | .nx e s => whileR t body n e s
    | .ct e s => whileR t body n e s
    | .bk e s => .nx e s
    | r => r) else .nx env s1
theorem cs_while (k : Nat) (hp : PassesOwn (model X.prog X.w) X.A X.env X.xe) (hc : CT X Wx a t) (hb : CSs X Wx ss m) : CS X Wx (.While a ss [] pos) (whileR t m k) := PS.mono (ps_while hp hc hb) fun E σ H h => by
  obtain ⟨mu, xi, env, st, re, c, h⟩ := h
  refine ⟨fun k σ H => ∃ mu xi env st, REnv X.K ⟨H, mu, xi⟩ env σ ∧ Corr X.K ⟨H, mu, xi⟩ st ∧ PostS X.K ⟨H, mu, xi⟩ Wx E (whileR t m k env st), ⟨k, mu, xi, env, st, re, c, h⟩, ?_⟩
  rintro k σ H ⟨mu, xi, env, st, re, c, h⟩
  cases k with
  | zero => exact h.elim
  | succ k =>
    unfold whileR at h
    refine tG_mono (tG_bindS (R := RB) re c h) fun v H1 ⟨mu1, xi1, d, st1, l1, r1, c1, re1, p1⟩ => ?_
    cases r1
    cases v with
    | false => exact p1 ⟨H1, mu1, xi1⟩ σ (.refl _) re1 c1
    | true =>
      refine ⟨fun σ H => ∃ mu xi env st, REnv X.K ⟨H, mu, xi⟩ env σ ∧ Corr X.K ⟨H, mu, xi⟩ st ∧ PostS X.K ⟨H, mu, xi⟩ Wx E (whileR t m k env st), fun σ' H' q => ⟨k, Nat.lt_succ_self k, q⟩, mu1, xi1, env, st1, re1, c1, ?_⟩
      rw [if_pos rfl] at p1
      cases em : m env st1 with
      | nx e s =>
        rw [em] at p1
        exact fun w' σ' l re' c' => ⟨w'.mu, w'.xi, e, s, re', c', PostS.le p1 l⟩
      | ct e s =>
        rw [em] at p1
        exact fun w' σ' l re' c' => ⟨w'.mu, w'.xi, e, s, re', c', PostS.le p1 l⟩
      | bk e s =>
        rw [em] at p1
        exact p1
      | rt d s =>
        rw [em] at p1
        exact p1
      | exc k fs xs e s =>
        rw [em] at p1
        exact p1
      | bad =>
        rw [em] at p1
        exact p1.elim

/-! ### for -/
structure Src where
  rd : Nat → Sto → Option (Option D)
  n : Nat
def Src.fz (ds : List D) : Src := ⟨fun i _ => some ds[i]?, ds.length⟩
def Src.lv (k n : Nat) : Src := ⟨fun i st => match st[k]? with
  | some (.lst xs) => some xs[i]?
  | _ => none, n⟩
/-- J walks S from the world w₀ on -/
def Wk (K : PySem.W.Frag) (w₀ : Wd) (S : Src) (J : It) : Prop := ∀ (i : Nat) (w : Wd) (st : Sto), w₀.Sub w → Corr K w st →
  (S.rd i st = some none → J.stop i w.H) ∧ ∀ d, S.rd i st = some (some d) → J.go i w.H ∧ ∀ x H', J.yld i w.H x H' → (∀ a o, w.H a = some o → H' a = some o) ∧ Rel K ⟨H', w.mu, w.xi⟩ d x
/-- more objects -/
theorem Corr.more {K : PySem.W.Frag} {w : Wd} {st : Sto} (c : Corr K w st) {H' : Hp} (e : ∀ a o, w.H a = some o → H' a = some o) : w.Le ⟨H', w.mu, w.xi⟩ ∧ Corr K ⟨H', w.mu, w.xi⟩ st := by
  have S : w.Sub ⟨H', w.mu, w.xi⟩ := ⟨fun a o h => by
    obtain ⟨h1, h2, h3⟩ := Wd.fr_some.mp h
    exact Wd.fr_some.mpr ⟨h1, h2, e a o h3⟩, List.prefix_rfl⟩
  refine ⟨⟨S, rfl, fun a ha => ?_⟩, ⟨c.nd, c.len, c.apart, fun a ha => ?_, fun n a o h1 h2 => ?_⟩⟩
  · obtain ⟨u, hu⟩ := c.hid a ha
    exact (e a u hu).trans hu.symm
  · obtain ⟨u, hu⟩ := c.hid a ha
    exact ⟨u, e a u hu⟩
  · obtain ⟨u, hu, r⟩ := c.obj n a o h1 h2
    exact ⟨u, e a u hu, RelO.sub S r⟩
abbrev CI (X : Cx) (Wx : WX) (tg iter : Expr) (mi : M Src) : Prop := PI X tg iter (tG X.K (Wk X.K) Wx mi)
theorem PI.mono {tg iter : Expr} {t t' : TI} (h : PI X tg iter t) (i : ∀ σ H Q, t' σ H Q → t σ H Q) : PI X tg iter t' := ⟨fun pins s σ H Q I q => h.run pins s σ H Q I (i σ H Q q)⟩
def loopR (rd : Nat → Sto → Option (Option D)) (g : GD) (body : MS) : Nat → Nat → MS
  | 0, i => fun env st => match rd i st with
    | some none => .nx env st
    | _ => .bad
  | n + 1, i => fun env st => match rd i st with
    | some none => .nx env st
    | some (some d) => (match g d env with
      | some e1 => (match body e1 st with
        | .nx e s => loopR rd g body n (i + 1) e s
        | .ct e s => loopR rd g body n (i + 1) e s
        | .bk e s => .nx e s
        | r => r)
      | none => .bad)
    | none => .bad
def sFor (mi : M Src) (g : GD) (body : MS) : MS := fun env st => (mi env st).toS env fun S s1 => loopR S.rd g body S.n 0 env s1
theorem cs_for {tg iter : Expr} {mi : M Src} {g : GD} {us : List Nat} (hp : PassesOwn (model X.prog X.w) X.A X.env X.xe) (hc : X.calm = true) (hi : CI X Wx tg iter mi) (hg : CG X tg g us) (hb : CSs X Wx ss m)
    (hs : ∀ x, foldedSetIterable iter X.env x = pure x := by intro _; rfl) : CS X Wx (.For tg iter ss [] pos) (sFor mi g m) := PS.mono (ps_for hp hc hi hg hb hs) fun E σ H h => by
  obtain ⟨mu, xi, env, st, re, c, h⟩ := h
  refine tG_mono (tG_bindS (R := Wk X.K) re c h) fun J H1 ⟨mu1, xi1, S, st1, l1, wk, c1, re1, p1⟩ => ?_
  refine ⟨fun i k σ H => ∃ mu xi env st, Wd.Le ⟨H1, mu1, xi1⟩ ⟨H, mu, xi⟩ ∧ REnv X.K ⟨H, mu, xi⟩ env σ ∧ Corr X.K ⟨H, mu, xi⟩ st ∧ PostS X.K ⟨H, mu, xi⟩ Wx E (loopR S.rd g m k i env st), ⟨S.n, mu1, xi1, env, st1, .refl _, re1, c1, p1⟩, ?_⟩
  rintro i k σ H ⟨mu, xi, env, st, l, re, c, h⟩
  obtain ⟨ws, wg⟩ := wk i ⟨H, mu, xi⟩ st l.sub c
  cases er : S.rd i st with
  | none =>
    cases k with
    | zero =>
      unfold loopR at h
      rw [er] at h
      exact h.elim
    | succ k =>
      unfold loopR at h
      rw [er] at h
      exact h.elim
  | some od =>
    cases od with
    | none =>
      refine .inl ⟨ws er, ?_⟩
      cases k with
      | zero =>
        unfold loopR at h
        rw [er] at h
        exact h ⟨H, mu, xi⟩ σ (.refl _) re c
      | succ k =>
        unfold loopR at h
        rw [er] at h
        exact h ⟨H, mu, xi⟩ σ (.refl _) re c
    | some d =>
      cases k with
      | zero =>
        unfold loopR at h
        rw [er] at h
        exact h.elim
      | succ k =>
        unfold loopR at h
        rw [er] at h
        obtain ⟨g1, g2⟩ := wg d er
        refine .inr ⟨g1, fun σ H => ∃ mu xi env st, Wd.Le ⟨H1, mu1, xi1⟩ ⟨H, mu, xi⟩ ∧ REnv X.K ⟨H, mu, xi⟩ env σ ∧ Corr X.K ⟨H, mu, xi⟩ st ∧ PostS X.K ⟨H, mu, xi⟩ Wx E (loopR S.rd g m k (i + 1) env st), fun σ' H' q => ⟨k, Nat.lt_succ_self k, q⟩, fun x H' y => ?_⟩
        obtain ⟨eh, r2⟩ := g2 x H' y
        obtain ⟨l2, c2⟩ := c.more eh
        dsimp only at h
        cases eg : g d env with
        | none =>
          rw [eg] at h
          exact h.elim
        | some e1 =>
          rw [eg] at h
          dsimp only at h
          refine ⟨mu, xi, env, st, d, e1, re.le l2, c2, r2, eg, fun σ' re' _ => ⟨mu, xi, e1, st, re', c2, ?_⟩⟩
          have h2 := PostS.le h l2
          cases em : m e1 st with
          | nx e s =>
            rw [em] at h2
            exact fun w' σ' l' re' c' => ⟨w'.mu, w'.xi, e, s, (l.trans l2).trans l', re', c', PostS.le h2 l'⟩
          | ct e s =>
            rw [em] at h2
            exact fun w' σ' l' re' c' => ⟨w'.mu, w'.xi, e, s, (l.trans l2).trans l', re', c', PostS.le h2 l'⟩
          | bk e s =>
            rw [em] at h2
            exact h2
          | rt d s =>
            rw [em] at h2
            exact h2
          | exc k fs xs e s =>
            rw [em] at h2
            exact h2
          | bad =>
            rw [em] at h2
            exact h2.elim
end
end ND
end
namespace ND
open PySem L2 PyProof.Rows
/-! ### freezing -/
mutual
def frzD (fs : Nat → Option D) (n0 : Nat) : D → Option D
  | .non => some .non
  | .bl b => some (.bl b)
  | .int i => some (.int i)
  | .str s => some (.str s)
  | .tup xs => (frzDs fs n0 xs).map .tup
  | .lst xs => (frzDs fs n0 xs).map .lst
  | .ref n => if n < n0 then some (.ref n) else fs (n - n0)
  | .ins k f xs => (frzDs fs n0 xs).map (.ins k f)
  | .dK ks xs => (frzDs fs n0 xs).map (.dK ks)
  | .dT ks xs => (frzDs fs n0 xs).map (.dT ks)
  | .glo x => some (.glo x)
  | .ty n => some (.ty n)
  | .ext n => some (.ext n)
  | .exc k f xs => some (.exc k f xs)
def frzDs (fs : Nat → Option D) (n0 : Nat) : List D → Option (List D)
  | [] => some []
  | x :: xs => match frzD fs n0 x, frzDs fs n0 xs with
    | some d, some ds => some (d :: ds)
    | _, _ => none
end
def frzO (fs : Nat → Option D) (n0 : Nat) : SO → Option D
  | .lst xs => (frzDs fs n0 xs).map .lst
  | .ins k f xs => (frzDs fs n0 xs).map (.ins k f)
  | .dK ks xs => (frzDs fs n0 xs).map (.dK ks)
  | .dT ks xs => (frzDs fs n0 xs).map (.dT ks)
def frzSO (fs : Nat → Option D) (n0 : Nat) : SO → Option SO
  | .lst xs => (frzDs fs n0 xs).map .lst
  | .ins k f xs => (frzDs fs n0 xs).map (.ins k f)
  | .dK ks xs => (frzDs fs n0 xs).map (.dK ks)
  | .dT ks xs => (frzDs fs n0 xs).map (.dT ks)
/-- the frozen forms of the objects from n0 on, but of ex's -/
def frzI (st : Sto) (n0 : Nat) (ex : Option Nat) : Nat → Nat → Option D
  | 0 => fun _ => none
  | k + 1 => fun j => if ex = some (n0 + j) then none else (st[n0 + j]?).bind (frzO (frzI st n0 ex k) n0)
abbrev frzA (st : Sto) (n0 : Nat) (ex : Option Nat) : Nat → Option D := frzI st n0 ex 3
open Classical in
noncomputable def mrg1 (fs : Nat → Option D) (n0 : Nat) (o o1 : SO) : Option SO := if o1 = o then some o else frzSO fs n0 o1
noncomputable def mrg (fs : Nat → Option D) (n0 : Nat) : Sto → Sto → Option Sto
  | [], _ => some []
  | _ :: _, [] => none
  | o :: r, o1 :: r1 => match mrg1 fs n0 o o1, mrg fs n0 r r1 with
    | some a, some b => some (a :: b)
    | _, _ => none
/-- back in the caller's store -/
noncomputable def fin (st0 : Sto) (d : D) (st1 : Sto) : Res D :=
  match frzD (frzA st1 st0.length none) st0.length d, mrg (frzA st1 st0.length none) st0.length st0 st1 with
  | some d', some st' => .ok d' st'
  | _, _ => .bad
/-- .. with a list, an instance, a dict that lives on -/
noncomputable def finL (st0 : Sto) (d : D) (st1 : Sto) : Res D := match d with
  | .ref n => if n < st0.length then .bad else match st1[n]? with
    | some o => (match frzSO (frzA st1 st0.length (some n)) st0.length o, mrg (frzA st1 st0.length (some n)) st0.length st0 st1 with
      | some o', some st' => .ok (.ref st0.length) (st' ++ [o'])
      | _, _ => .bad)
    | none => .bad
  | _ => .bad
section
variable {K : PySem.W.Frag}
/-- a world behind a call: the heap as it is, the caller's store -/
structure Tgt (w0 w1 t : Wd) : Prop where
  le : w0.Le w1
  fr : ∀ a o, w1.fr a = some o → t.fr a = some o
  mu : w0.mu <+: t.mu
  H : t.H = w1.H
  xi : t.xi = w0.xi
theorem Tgt.at {w0 w1 t : Wd} (l : Tgt w0 w1 t) {n : Nat} {a : Addr} (hn : n < w0.mu.length) (q : w1.mu[n]? = some a) : t.mu[n]? = some a := by
  obtain ⟨u, hu⟩ := l.le.sub.mu
  obtain ⟨u2, hu2⟩ := l.mu
  rw [← hu, List.getElem?_append_left hn] at q
  rw [← hu2, List.getElem?_append_left hn]
  exact q
theorem Tgt.sub {w0 w1 t : Wd} (l : Tgt w0 w1 t) : w0.Le t := ⟨⟨fun a o h => l.fr a o (l.le.sub.fr a o h), l.mu⟩, l.xi, fun a ha => by
  rw [l.H]
  exact l.le.hid a ha⟩
def FsOk (K : PySem.W.Frag) (w0 w1 t : Wd) (fs : Nat → Option D) : Prop := ∀ (j : Nat) (d : D) (a : Addr), fs j = some d → w1.mu[w0.mu.length + j]? = some a → Rel K t d (.ref a)
mutual
theorem frzD_ok {w0 w1 t : Wd} (l : Tgt w0 w1 t) {fs : Nat → Option D} (hf : FsOk K w0 w1 t fs) : ∀ (d d' : D) (v : V), Rel K w1 d v → frzD fs w0.mu.length d = some d' → Rel K t d' v
  | .non, d', v, r, h => by
    cases h
    exact r
  | .bl b, d', v, r, h => by
    cases h
    exact r
  | .int b, d', v, r, h => by
    cases h
    exact r
  | .str b, d', v, r, h => by
    cases h
    exact r
  | .glo b, d', v, r, h => by
    cases h
    exact r
  | .ty b, d', v, r, h => by
    cases h
    exact r
  | .ext b, d', v, r, h => by
    cases h
    unfold Rel at r ⊢
    obtain ⟨a, e, q⟩ := r
    exact ⟨a, e, ex_l l.fr q⟩
  | .exc b _ _, d', v, r, h => by
    cases h
    exact r
  | .tup xs, d', v, r, h => by
    unfold Rel at r
    obtain ⟨a, vs, e, q, s⟩ := r
    have h2 : (frzDs fs w0.mu.length xs).map D.tup = some d' := h
    cases e2 : frzDs fs w0.mu.length xs with
    | none =>
      rw [e2] at h2
      cases h2
    | some ds =>
      rw [e2] at h2
      cases h2
      unfold Rel
      exact ⟨a, vs, e, l.fr _ _ q, frzDs_ok l hf xs ds vs s e2⟩
  | .lst xs, d', v, r, h => by
    unfold Rel at r
    obtain ⟨a, vs, e, q, s⟩ := r
    have h2 : (frzDs fs w0.mu.length xs).map D.lst = some d' := h
    cases e2 : frzDs fs w0.mu.length xs with
    | none =>
      rw [e2] at h2
      cases h2
    | some ds =>
      rw [e2] at h2
      cases h2
      unfold Rel
      exact ⟨a, vs, e, l.fr _ _ q, frzDs_ok l hf xs ds vs s e2⟩
  | .ref n, d', v, r, h => by
    unfold Rel at r
    obtain ⟨a, e, q⟩ := r
    have h2 : (if n < w0.mu.length then some (D.ref n) else fs (n - w0.mu.length)) = some d' := h
    by_cases hn : n < w0.mu.length
    · rw [if_pos hn] at h2
      cases h2
      unfold Rel
      exact ⟨a, e, l.at hn q⟩
    · rw [if_neg hn] at h2
      subst e
      exact hf _ d' a h2 (by rw [Nat.add_sub_cancel' (Nat.le_of_not_lt hn)]; exact q)
  | .ins k f xs, d', v, r, h => by
    unfold Rel at r
    obtain ⟨a, dx, gs, e, q, s, tt⟩ := r
    have h2 : (frzDs fs w0.mu.length xs).map (D.ins k f) = some d' := h
    cases e2 : frzDs fs w0.mu.length xs with
    | none =>
      rw [e2] at h2
      cases h2
    | some ds =>
      rw [e2] at h2
      cases h2
      unfold Rel
      exact ⟨a, dx, gs, e, l.fr _ _ q, s, frzDs_ok l hf xs ds _ tt e2⟩
  | .dK k xs, d', v, r, h => by
    unfold Rel at r
    obtain ⟨a, gs, e, q, s, tt⟩ := r
    have h2 : (frzDs fs w0.mu.length xs).map (D.dK k) = some d' := h
    cases e2 : frzDs fs w0.mu.length xs with
    | none =>
      rw [e2] at h2
      cases h2
    | some ds =>
      rw [e2] at h2
      cases h2
      unfold Rel
      exact ⟨a, gs, e, l.fr _ _ q, s, frzDs_ok l hf xs ds _ tt e2⟩
  | .dT k xs, d', v, r, h => by
    unfold Rel at r
    obtain ⟨a, gs, e, q, s, tt⟩ := r
    have h2 : (frzDs fs w0.mu.length xs).map (D.dT k) = some d' := h
    cases e2 : frzDs fs w0.mu.length xs with
    | none =>
      rw [e2] at h2
      cases h2
    | some ds =>
      rw [e2] at h2
      cases h2
      unfold Rel
      exact ⟨a, gs, e, l.fr _ _ q, s, frzDs_ok l hf xs ds _ tt e2⟩
theorem frzDs_ok {w0 w1 t : Wd} (l : Tgt w0 w1 t) {fs : Nat → Option D} (hf : FsOk K w0 w1 t fs) : ∀ (d d' : List D) (v : List V), Rels K w1 d v → frzDs fs w0.mu.length d = some d' → Rels K t d' v
  | [], d', v, r, h => by
    cases h
    exact r
  | x :: xs, d', vs, r, h => by
    obtain ⟨v, rr, e, q, s⟩ := r.inv
    subst e
    have h2 : (match frzD fs w0.mu.length x, frzDs fs w0.mu.length xs with
      | some d, some ds => some (d :: ds)
      | _, _ => none) = some d' := h
    split at h2
    · rename_i d ds e1 e2
      cases h2
      exact .cons (frzD_ok l hf x d v q e1) (frzDs_ok l hf xs ds rr s e2)
    · cases h2
end
theorem frzO_ok {w0 w1 t : Wd} (l : Tgt w0 w1 t) {fs : Nat → Option D} (hf : FsOk K w0 w1 t fs) {o : SO} {d : D} {u : HO} {a : Addr} (r : RelO K w1 o u) (ha : t.fr a = some u) (h : frzO fs w0.mu.length o = some d) : Rel K t d (.ref a) := by
  cases o with
  | lst xs =>
    obtain ⟨vs, e, s⟩ := r
    subst e
    have h2 : (frzDs fs w0.mu.length xs).map D.lst = some d := h
    cases e2 : frzDs fs w0.mu.length xs with
    | none =>
      rw [e2] at h2
      cases h2
    | some ds =>
      rw [e2] at h2
      cases h2
      unfold Rel
      exact ⟨a, vs, rfl, ha, frzDs_ok l hf xs ds vs s e2⟩
  | ins k f xs =>
    obtain ⟨dx, gs, e, s, tt⟩ := r
    subst e
    have h2 : (frzDs fs w0.mu.length xs).map (D.ins k f) = some d := h
    cases e2 : frzDs fs w0.mu.length xs with
    | none =>
      rw [e2] at h2
      cases h2
    | some ds =>
      rw [e2] at h2
      cases h2
      unfold Rel
      exact ⟨a, dx, gs, rfl, ha, s, frzDs_ok l hf xs ds _ tt e2⟩
  | dK k xs =>
    obtain ⟨gs, e, s, tt⟩ := r
    subst e
    have h2 : (frzDs fs w0.mu.length xs).map (D.dK k) = some d := h
    cases e2 : frzDs fs w0.mu.length xs with
    | none =>
      rw [e2] at h2
      cases h2
    | some ds =>
      rw [e2] at h2
      cases h2
      unfold Rel
      exact ⟨a, gs, rfl, ha, s, frzDs_ok l hf xs ds _ tt e2⟩
  | dT k xs =>
    obtain ⟨gs, e, s, tt⟩ := r
    subst e
    have h2 : (frzDs fs w0.mu.length xs).map (D.dT k) = some d := h
    cases e2 : frzDs fs w0.mu.length xs with
    | none =>
      rw [e2] at h2
      cases h2
    | some ds =>
      rw [e2] at h2
      cases h2
      unfold Rel
      exact ⟨a, gs, rfl, ha, s, frzDs_ok l hf xs ds _ tt e2⟩
theorem frzSO_ok {w0 w1 t : Wd} (l : Tgt w0 w1 t) {fs : Nat → Option D} (hf : FsOk K w0 w1 t fs) {o o' : SO} {u : HO} (r : RelO K w1 o u) (h : frzSO fs w0.mu.length o = some o') : RelO K t o' u := by
  cases o with
  | lst xs =>
    obtain ⟨vs, e, s⟩ := r
    have h2 : (frzDs fs w0.mu.length xs).map SO.lst = some o' := h
    cases e2 : frzDs fs w0.mu.length xs with
    | none =>
      rw [e2] at h2
      cases h2
    | some ds =>
      rw [e2] at h2
      cases h2
      exact ⟨vs, e, frzDs_ok l hf xs ds vs s e2⟩
  | ins k f xs =>
    obtain ⟨dx, gs, e, s, tt⟩ := r
    have h2 : (frzDs fs w0.mu.length xs).map (SO.ins k f) = some o' := h
    cases e2 : frzDs fs w0.mu.length xs with
    | none =>
      rw [e2] at h2
      cases h2
    | some ds =>
      rw [e2] at h2
      cases h2
      exact ⟨dx, gs, e, s, frzDs_ok l hf xs ds _ tt e2⟩
  | dK k xs =>
    obtain ⟨gs, e, s, tt⟩ := r
    have h2 : (frzDs fs w0.mu.length xs).map (SO.dK k) = some o' := h
    cases e2 : frzDs fs w0.mu.length xs with
    | none =>
      rw [e2] at h2
      cases h2
    | some ds =>
      rw [e2] at h2
      cases h2
      exact ⟨gs, e, s, frzDs_ok l hf xs ds _ tt e2⟩
  | dT k xs =>
    obtain ⟨gs, e, s, tt⟩ := r
    have h2 : (frzDs fs w0.mu.length xs).map (SO.dT k) = some o' := h
    cases e2 : frzDs fs w0.mu.length xs with
    | none =>
      rw [e2] at h2
      cases h2
    | some ds =>
      rw [e2] at h2
      cases h2
      exact ⟨gs, e, s, frzDs_ok l hf xs ds _ tt e2⟩
theorem frzI_ok {w0 w1 t : Wd} {st1 : Sto} {ex : Option Nat} (l : Tgt w0 w1 t) (c : Corr K w1 st1) (hat : ∀ (n : Nat) (a : Addr) (u : HO), ¬ n < w0.mu.length → ex ≠ some n → w1.mu[n]? = some a → w1.H a = some u → t.fr a = some u) : ∀ k : Nat, FsOk K w0 w1 t (frzI st1 w0.mu.length ex k)
  | 0 => fun j d a h _ => by
    unfold frzI at h
    cases h
  | k + 1 => fun j d a h ha => by
    unfold frzI at h
    split at h
    · cases h
    · rename_i hex
      cases e : st1[w0.mu.length + j]? with
      | none =>
        rw [e] at h
        cases h
      | some o =>
        rw [e] at h
        obtain ⟨u, hu, r⟩ := c.obj _ a o ha e
        exact frzO_ok l (frzI_ok l c hat k) r (hat _ a u (by omega) hex ha hu) h
/-! what was known in the caller's world holds behind -/
mutual
theorem Rel.below {w0 w1 t : Wd} (l : Tgt w0 w1 t) : ∀ (d : D) (v0 v : V), Rel K w0 d v0 → Rel K w1 d v → Rel K t d v
  | .non, _, _, _, r => r
  | .bl _, _, _, _, r => r
  | .int _, _, _, _, r => r
  | .str _, _, _, _, r => r
  | .glo _, _, _, _, r => r
  | .ty _, _, _, _, r => r
  | .ext _, _, _, _, r => by
    unfold Rel at r ⊢
    obtain ⟨a, e, q⟩ := r
    exact ⟨a, e, ex_l l.fr q⟩
  | .exc _ _ _, _, _, _, r => r
  | .tup xs, v0, v, r0, r => by
    unfold Rel at r0 r ⊢
    obtain ⟨a0, vs0, e0, q0, s0⟩ := r0
    obtain ⟨a, vs, e, q, s⟩ := r
    exact ⟨a, vs, e, l.fr _ _ q, Rels.below l xs vs0 vs s0 s⟩
  | .lst xs, v0, v, r0, r => by
    unfold Rel at r0 r ⊢
    obtain ⟨a0, vs0, e0, q0, s0⟩ := r0
    obtain ⟨a, vs, e, q, s⟩ := r
    exact ⟨a, vs, e, l.fr _ _ q, Rels.below l xs vs0 vs s0 s⟩
  | .ref n, v0, v, r0, r => by
    unfold Rel at r0 r ⊢
    obtain ⟨a0, e0, q0⟩ := r0
    obtain ⟨a, e, q⟩ := r
    exact ⟨a, e, l.at (List.getElem?_eq_some_iff.mp q0).1 q⟩
  | .ins k f xs, v0, v, r0, r => by
    unfold Rel at r0 r ⊢
    obtain ⟨a0, dx0, gs0, e0, q0, s0, t0⟩ := r0
    obtain ⟨a, dx, gs, e, q, s, tt⟩ := r
    exact ⟨a, dx, gs, e, l.fr _ _ q, s, Rels.below l xs _ _ t0 tt⟩
  | .dK k xs, v0, v, r0, r => by
    unfold Rel at r0 r ⊢
    obtain ⟨a0, gs0, e0, q0, s0, t0⟩ := r0
    obtain ⟨a, gs, e, q, s, tt⟩ := r
    exact ⟨a, gs, e, l.fr _ _ q, s, Rels.below l xs _ _ t0 tt⟩
  | .dT k xs, v0, v, r0, r => by
    unfold Rel at r0 r ⊢
    obtain ⟨a0, gs0, e0, q0, s0, t0⟩ := r0
    obtain ⟨a, gs, e, q, s, tt⟩ := r
    exact ⟨a, gs, e, l.fr _ _ q, s, Rels.below l xs _ _ t0 tt⟩
theorem Rels.below {w0 w1 t : Wd} (l : Tgt w0 w1 t) : ∀ (d : List D) (v0 v : List V), Rels K w0 d v0 → Rels K w1 d v → Rels K t d v
  | [], _, _, _, r => r
  | x :: xs, v0, v, r0, r => by
    obtain ⟨u0, rr0, e0, q0, s0⟩ := r0.inv
    obtain ⟨u, rr, e, q, s⟩ := r.inv
    subst e
    exact .cons (Rel.below l x u0 u q0 q) (Rels.below l xs rr0 rr s0 s)
end
theorem RelO.below {w0 w1 t : Wd} (l : Tgt w0 w1 t) {o : SO} {u0 u : HO} (r0 : RelO K w0 o u0) (r : RelO K w1 o u) : RelO K t o u := by
  cases o with
  | lst xs =>
    obtain ⟨vs0, e0, s0⟩ := r0
    obtain ⟨vs, e, s⟩ := r
    exact ⟨vs, e, Rels.below l xs _ _ s0 s⟩
  | ins k f xs =>
    obtain ⟨dx0, gs0, e0, s0, t0⟩ := r0
    obtain ⟨dx, gs, e, s, tt⟩ := r
    exact ⟨dx, gs, e, s, Rels.below l xs _ _ t0 tt⟩
  | dK k xs =>
    obtain ⟨gs0, e0, s0, t0⟩ := r0
    obtain ⟨gs, e, s, tt⟩ := r
    exact ⟨gs, e, s, Rels.below l xs _ _ t0 tt⟩
  | dT k xs =>
    obtain ⟨gs0, e0, s0, t0⟩ := r0
    obtain ⟨gs, e, s, tt⟩ := r
    exact ⟨gs, e, s, Rels.below l xs _ _ t0 tt⟩
theorem mrg_len {fs : Nat → Option D} {n0 : Nat} : ∀ {st0 st1 st' : Sto}, mrg fs n0 st0 st1 = some st' → st'.length = st0.length
  | [], _, _, h => by
    cases h
    rfl
  | _ :: _, [], _, h => by cases h
  | o :: r, o1 :: r1, st', h => by
    unfold mrg at h
    split at h
    · rename_i a b e1 e2
      cases h
      show b.length + 1 = r.length + 1
      rw [mrg_len e2]
    · cases h
theorem mrg_at {fs : Nat → Option D} {n0 : Nat} : ∀ {st0 st1 st' : Sto} {n : Nat} {o' : SO}, mrg fs n0 st0 st1 = some st' → st'[n]? = some o' → ∃ o o1, st0[n]? = some o ∧ st1[n]? = some o1 ∧ mrg1 fs n0 o o1 = some o'
  | [], _, _, _, _, h, e => by
    cases h
    simp at e
  | _ :: _, [], _, _, _, h, _ => by cases h
  | o :: r, o1 :: r1, st', n, o', h, e => by
    unfold mrg at h
    split at h
    · rename_i a b e1 e2
      cases h
      cases n with
      | zero =>
        have e3 : a = o' := by simpa using e
        subst e3
        exact ⟨o, o1, rfl, rfl, e1⟩
      | succ n => simpa using mrg_at (n := n) e2 (by simpa using e)
    · cases h
theorem mrg_corr {w0 w1 t : Wd} {st0 st1 st' : Sto} {fs : Nat → Option D} (l : Tgt w0 w1 t) (c0 : Corr K w0 st0) (c1 : Corr K w1 st1) (hf : FsOk K w0 w1 t fs) (h : mrg fs w0.mu.length st0 st1 = some st') {n : Nat} {a : Addr} {o' : SO} (hn : w0.mu[n]? = some a) (ho : st'[n]? = some o') :
    ∃ u, t.H a = some u ∧ RelO K t o' u := by
  obtain ⟨o, o1, e0, e1, em⟩ := mrg_at h ho
  have hn1 : w1.mu[n]? = some a := by
    obtain ⟨t, ht⟩ := l.le.sub.mu
    rw [← ht, List.getElem?_append_left (List.getElem?_eq_some_iff.mp hn).1]
    exact hn
  obtain ⟨u0, hu0, r0⟩ := c0.obj n a o hn e0
  obtain ⟨u1, hu1, r1⟩ := c1.obj n a o1 hn1 e1
  refine ⟨u1, by rw [l.H]; exact hu1, ?_⟩
  unfold mrg1 at em
  split at em
  · rename_i eo
    cases em
    subst eo
    exact RelO.below l r0 r1
  · exact frzSO_ok l hf r1 em
theorem hid_of {w0 w1 t : Wd} {st0 : Sto} (l : Tgt w0 w1 t) (c0 : Corr K w0 st0) : ∀ a ∈ t.xi, ∃ u, t.H a = some u := fun a ha => by
  rw [l.xi] at ha
  obtain ⟨u, e⟩ := c0.hid a ha
  exact ⟨u, by rw [l.H, l.le.hid a ha]; exact e⟩
theorem nd_other {w1 : Wd} {st1 : Sto} (c : Corr K w1 st1) {n m : Nat} {a : Addr} (h : w1.mu[n]? = some a) (h' : w1.mu[m]? = some a) : n = m := by
  obtain ⟨l1, e1⟩ := List.getElem?_eq_some_iff.mp h
  obtain ⟨l2, e2⟩ := List.getElem?_eq_some_iff.mp h'
  exact (List.getElem_inj c.nd).mp (e1.trans e2.symm)
theorem lift_mu {w0 w1 : Wd} (l : w0.Le w1) {n : Nat} {a : Addr} (hn : w0.mu[n]? = some a) : w1.mu[n]? = some a := by
  obtain ⟨t, ht⟩ := l.sub.mu
  rw [← ht, List.getElem?_append_left (List.getElem?_eq_some_iff.mp hn).1]
  exact hn
def Wd.back (w0 w1 : Wd) : Wd := ⟨w1.H, w0.mu, w0.xi⟩
theorem back_tgt {w0 w1 : Wd} (l : w0.Le w1) : Tgt w0 w1 (w0.back w1) := ⟨l, fun a o h => by
  obtain ⟨h1, h2, h3⟩ := Wd.fr_some.mp h
  refine Wd.fr_some.mpr ⟨fun q => h1 ?_, fun q => h2 (by rw [l.xi]; exact q), h3⟩
  obtain ⟨t, ht⟩ := l.sub.mu
  rw [← ht]
  exact List.mem_append_left _ q, List.prefix_rfl, rfl, rfl⟩
theorem fin_ok {w0 w1 : Wd} {st0 st1 st' : Sto} {d d' : D} {v : V} (l : w0.Le w1) (c0 : Corr K w0 st0) (c1 : Corr K w1 st1) (r : Rel K w1 d v) (h : fin st0 d st1 = .ok d' st') : w0.Le (w0.back w1) ∧ Corr K (w0.back w1) st' ∧ Rel K (w0.back w1) d' v := by
  have T := back_tgt l
  unfold fin at h
  rw [c0.len] at h
  have hf : FsOk K w0 w1 (w0.back w1) (frzA st1 w0.mu.length none) := frzI_ok T c1 (fun n a u hn _ hm hu => by
    refine Wd.fr_some.mpr ⟨fun q => ?_, fun q => c1.apart a (List.mem_of_getElem? hm) (by rw [l.xi]; exact q), hu⟩
    obtain ⟨i, hi⟩ := List.getElem?_of_mem q
    have hi' : w0.mu[i]? = some a := hi
    have := nd_other c1 hm (lift_mu l hi')
    have := (List.getElem?_eq_some_iff.mp hi').1
    omega) 3
  split at h
  · rename_i d2 st2 e1 e2
    cases h
    refine ⟨T.sub, ⟨c0.nd, (mrg_len e2).trans c0.len, c0.apart, hid_of T c0, fun n a o' hn ho => mrg_corr T c0 c1 hf e2 hn ho⟩, frzD_ok T hf d d' v r e1⟩
  · cases h
theorem finL_ok {w0 w1 : Wd} {st0 st1 st' : Sto} {d d' : D} {v : V} (l : w0.Le w1) (c0 : Corr K w0 st0) (c1 : Corr K w1 st1) (r : Rel K w1 d v) (h : finL st0 d st1 = .ok d' st') :
    ∃ w' : Wd, w'.H = w1.H ∧ w0.Le w' ∧ Corr K w' st' ∧ Rel K w' d' v := by
  unfold finL at h
  rw [c0.len] at h
  split at h
  · rename_i n
    split at h
    · cases h
    · rename_i hn
      split at h
      · rename_i o ho
        unfold Rel at r
        obtain ⟨a, e, hm⟩ := r
        subst e
        obtain ⟨u, hu, ro⟩ := c1.obj n a o hm ho
        have hna : a ∉ w0.mu := fun q => by
          obtain ⟨i, hi⟩ := List.getElem?_of_mem q
          have := nd_other c1 hm (lift_mu l hi)
          have := (List.getElem?_eq_some_iff.mp hi).1
          omega
        have T : Tgt w0 w1 ⟨w1.H, w0.mu ++ [a], w0.xi⟩ := ⟨l, fun b o h => by
          obtain ⟨h1, h2, h3⟩ := Wd.fr_some.mp h
          refine Wd.fr_some.mpr ⟨fun q => ?_, fun q => h2 (by rw [l.xi]; exact q), h3⟩
          rcases List.mem_append.mp q with q | q
          · obtain ⟨t, ht⟩ := l.sub.mu
            exact h1 (by rw [← ht]; exact List.mem_append_left _ q)
          · rw [List.mem_singleton.mp q] at h1
            exact h1 (List.mem_of_getElem? hm), List.prefix_append _ _, rfl, rfl⟩
        have hf : FsOk K w0 w1 ⟨w1.H, w0.mu ++ [a], w0.xi⟩ (frzA st1 w0.mu.length (some n)) := frzI_ok T c1 (fun m b u hmn hex hmb hub => by
          refine Wd.fr_some.mpr ⟨fun q => ?_, fun q => c1.apart b (List.mem_of_getElem? hmb) (by rw [l.xi]; exact q), hub⟩
          rcases List.mem_append.mp q with q | q
          · obtain ⟨i, hi⟩ := List.getElem?_of_mem q
            have := nd_other c1 hmb (lift_mu l hi)
            have := (List.getElem?_eq_some_iff.mp hi).1
            omega
          · rw [List.mem_singleton.mp q] at hmb
            exact hex (congrArg some (nd_other c1 hm hmb))) 3
        split at h
        · rename_i o' st2 e1 e2
          cases h
          have hl2 : st2.length = w0.mu.length := (mrg_len e2).trans c0.len
          refine ⟨⟨w1.H, w0.mu ++ [a], w0.xi⟩, rfl, T.sub, ⟨?_, ?_, fun b hb => ?_, hid_of T c0, fun k b x hk hx => ?_⟩, ?_⟩
          · show (w0.mu ++ [a]).Nodup
            rw [List.nodup_append]
            refine ⟨c0.nd, List.pairwise_singleton _ _, fun x hx y hy e => ?_⟩
            rw [List.mem_singleton.mp hy] at e
            exact hna (by rw [← e]; exact hx)
          · show (st2 ++ [o']).length = (w0.mu ++ [a]).length
            rw [List.length_append, List.length_append, hl2]
            rfl
          · rcases List.mem_append.mp hb with hb | hb
            · exact c0.apart b hb
            · rw [List.mem_singleton.mp hb]
              exact fun q => c1.apart a (List.mem_of_getElem? hm) (by rw [l.xi]; exact q)
          · have hk' : (w0.mu ++ [a])[k]? = some b := hk
            by_cases hlt : k < w0.mu.length
            · rw [List.getElem?_append_left hlt] at hk'
              rw [List.getElem?_append_left (by omega)] at hx
              exact mrg_corr T c0 c1 hf e2 hk' hx
            · have hke : k = w0.mu.length := by
                have := (List.getElem?_eq_some_iff.mp hk').1
                rw [List.length_append] at this
                simp only [List.length_cons, List.length_nil] at this
                omega
              subst hke
              have e1' : a = b := by simpa using hk'
              subst e1'
              have e2' : o' = x := by
                rw [← hl2] at hx
                simpa using hx
              subst e2'
              exact ⟨u, hu, frzSO_ok T hf ro e1⟩
          · unfold Rel
            exact ⟨a, rfl, by simp⟩
        · cases h
      · cases h
  · cases h
end
end ND
noncomputable section
namespace ND
open PySem L2 PyProof.Rows
/-! ### a def's promise, by a function on data -/
def spM (K : PySem.W.Frag) (F : DF) : Sp := fun vs H Q E => ∃ mu xi ds st, Rels K ⟨H, mu, xi⟩ ds vs ∧ Corr K ⟨H, mu, xi⟩ st ∧ Post K (Rel K) ⟨H, mu, xi⟩ [] (fun c d _ H' => E c d H') Q (F ds st)
structure FnD (P : Program) (w : World) (K : PySem.W.Frag) (mg : Str → Option Value) (base : Heap) (lv : Nat) (f : Addr) (F : DF) : Prop where
  ex : FnR P w K mg base (L2.CX P w) lv f (spM K F)
  kp : PySem.W.keepIn K (.ref f) = true
/-- an exception's fields, for the caller -/
noncomputable def excEnd (st : Sto) (k : String) (fs : List String) (xs : List D) (s : Sto) : Res D := match fin st (.lst xs) s with
  | .ok (.lst ys) s' => .exc k fs ys s'
  | _ => .bad
/-- what a frame hands back -/
noncomputable def fnEnd (lv : Bool) (st : Sto) : SRes → Res D
  | .nx _ s => fin st .non s
  | .rt d s => if lv = true then finL st d s else fin st d s
  | .exc k fs xs _ s => excEnd st k fs xs s
  | _ => .bad
/-- a def of n parameters, N names -/
noncomputable def fn (n N : Nat) (lv : Bool) (body : MS) : DF := fun ds st => if ds.length = n then fnEnd lv st (body (ds.map some ++ List.replicate (N - n) none) st) else .bad
section
variable {K : PySem.W.Frag}
theorem REnv.start {w : Wd} {N : List Str} : ∀ {ds : List D} {vs : List V}, Rels K w ds vs → REnv K w (ds.map some ++ List.replicate (N.length - ds.length) none) (L2.start N vs) := fun {ds vs} r => by
  have hl := r.length
  unfold L2.start
  refine ⟨by simp [hl], fun i d h => ?_⟩
  by_cases hi : i < ds.length
  · rw [List.getElem?_append_left (by simpa using hi), List.getElem?_map] at h
    cases e : ds[i]? with
    | none =>
      rw [e] at h
      cases h
    | some x =>
      rw [e] at h
      cases h
      obtain ⟨v, hv, rv⟩ := r.get e
      refine ⟨v, ?_, rv⟩
      rw [List.getElem?_append_left (by simp; omega), List.getElem?_map, hv]
      rfl
  · rw [List.getElem?_append_right (by simpa using Nat.le_of_not_lt hi), List.getElem?_replicate] at h
    split at h <;> cases h
theorem excEnd_ok {w0 w' : Wd} {st0 s : Sto} {k : String} {fs : List String} {xs : List D} {Q : VK} {Wx : WX} {σ : L2.St} {dd : Option Addr} (c0 : Corr K w0 st0) (l : w0.Le w') (c : Corr K w' s) (x : XRel K w' fs xs dd) (h2 : Post K (Rel K) w0 σ Wx Q (excEnd st0 k fs xs s)) :
    Wx (.ref (gaS K k)) dd σ w'.H := by
  unfold excEnd fin at h2
  rw [c0.len] at h2
  have T := back_tgt l
  have hf : FsOk K w0 w' (w0.back w') (frzA s w0.mu.length none) := frzI_ok T c (fun n a u hn _ hm hu => by
    refine Wd.fr_some.mpr ⟨fun q => ?_, fun q => c.apart a (List.mem_of_getElem? hm) (by rw [l.xi]; exact q), hu⟩
    obtain ⟨i, hi⟩ := List.getElem?_of_mem q
    have hi' : w0.mu[i]? = some a := hi
    have := nd_other c hm (lift_mu l hi')
    have := (List.getElem?_eq_some_iff.mp hi').1
    omega) 3
  cases e1 : frzD (frzA s w0.mu.length none) w0.mu.length (.lst xs) with
  | none =>
    rw [e1] at h2
    exact h2.elim
  | some d2 =>
    rw [e1] at h2
    cases e2 : mrg (frzA s w0.mu.length none) w0.mu.length st0 s with
    | none =>
      rw [e2] at h2
      exact h2.elim
    | some st2 =>
      rw [e2] at h2
      have e3 : (frzDs (frzA s w0.mu.length none) w0.mu.length xs).map D.lst = some d2 := e1
      cases e4 : frzDs (frzA s w0.mu.length none) w0.mu.length xs with
      | none =>
        rw [e4] at e3
        cases e3
      | some ys =>
        rw [e4] at e3
        cases e3
        refine h2 (w0.back w') dd T.sub ⟨c0.nd, (mrg_len e2).trans c0.len, c0.apart, hid_of T c0, fun n a o' hn ho => mrg_corr T c0 c hf e2 hn ho⟩ ?_
        rcases x with ⟨x1, x2, x3⟩ | ⟨d, gs, x1, x2, x3, x4⟩
        · subst x2
          cases e4
          exact .inl ⟨x1, rfl, x3⟩
        · exact .inr ⟨d, gs, x1, T.fr _ _ x2, x3, frzDs_ok T hf xs ys _ x4 e4⟩
/-- the end of a frame, for the caller -/
theorem fnEnd_ok {w0 : Wd} {st0 : Sto} {lv : Bool} {r : SRes} {Q : VK} {E : XK} {σ : L2.St} (c0 : Corr K w0 st0) (h : Post K (Rel K) w0 σ (fun c d _ H' => E c d H') Q (fnEnd lv st0 r)) :
    PostS K w0 (fun c d _ H' => E c d H') { nx := fun _ H' => Q .non H', rt := Q } r := by
  cases r with
  | nx e s =>
    intro w' σ' l re c
    have h2 : Post K (Rel K) w0 σ (fun c d _ H' => E c d H') Q (fin st0 .non s) := h
    cases ef : fin st0 .non s with
    | ok d st' =>
      rw [ef] at h2
      obtain ⟨l2, c2, r2⟩ := fin_ok l c0 c (v := .non) (by unfold Rel; rfl) ef
      exact h2 (w0.back w') _ l2 r2 c2
    | exc k fs xs st' =>
      unfold fin at ef
      split at ef <;> cases ef
    | bad =>
      rw [ef] at h2
      exact h2.elim
  | rt d s =>
    intro w' v l rd c
    have h2 : Post K (Rel K) w0 σ (fun c d _ H' => E c d H') Q (if lv = true then finL st0 d s else fin st0 d s) := h
    cases lv with
    | false =>
      rw [if_neg Bool.false_ne_true] at h2
      cases ef : fin st0 d s with
      | ok d' st' =>
        rw [ef] at h2
        obtain ⟨l2, c2, r2⟩ := fin_ok l c0 c rd ef
        exact h2 (w0.back w') _ l2 r2 c2
      | exc k fs xs st' =>
        unfold fin at ef
        split at ef <;> cases ef
      | bad =>
        rw [ef] at h2
        exact h2.elim
    | true =>
      rw [if_pos rfl] at h2
      cases ef : finL st0 d s with
      | ok d' st' =>
        rw [ef] at h2
        obtain ⟨w2, e2, l2, c2, r2⟩ := finL_ok l c0 c rd ef
        have := h2 w2 v l2 r2 c2
        rw [e2] at this
        exact this
      | exc k fs xs st' =>
        unfold finL at ef
        repeat (first | cases ef | split at ef)
      | bad =>
        rw [ef] at h2
        exact h2.elim
  | bk e s => exact h.elim
  | ct e s => exact h.elim
  | bad => exact h.elim
  | exc k fs xs e s =>
    intro w' σ' dd l re c x
    exact excEnd_ok c0 l c x h
/-- a wish without slots -/
abbrev WXe (E : XK) : WX := fun c d _ H => E c d H
theorem fnok_of {P : Program} {w : World} {mg : Str → Option Value} {base : Heap} {k : Nat} {x qual : Str} {params : Arguments} {body : List Stmt} {scope : Scope} {dvs : List V} {kws : List (Str × V)} {f : Addr} {fd : FuncData} {N ps : List Str} {lv : Bool} {m : MS}
    (F : FunD K x qual params body scope dvs kws f fd) (S : FnScope N ps scope) (hb : Binds K fd ps [])
    (hbody : ∀ (cdv : Value) (A : Around) (outer : List PySem.Env) (s : Shared) (H : Hp) (E : XK), Room k (A.deeper (envOfC qual scope s.heap.objs.size f cdv)) → Takes (cxOf (L2.CX P w) P w K mg base N qual scope f cdv A outer s H E) (WXe E) →
      PassesOwn (model P w) (A.deeper (envOfC qual scope s.heap.objs.size f cdv)) (envOfC qual scope s.heap.objs.size f cdv) (cxOf (L2.CX P w) P w K mg base N qual scope f cdv A outer s H E).xe →
      CSs (cxOf (L2.CX P w) P w K mg base N qual scope f cdv A outer s H E) (WXe E) body m) : FnOk P w K mg base (L2.CX P w) (k + 1) f fd ps (spM K (fn ps.length N.length lv m)) := by
  refine F.ok S (fun vs H Q E h => ?_) (fun cdv A outer s H vs Q E hr h => ?_)
  · obtain ⟨mu, xi, ds, st, r, c, h⟩ := h
    unfold fn at h
    split at h
    · rename_i hl
      rw [← r.length]
      exact hl
    · exact h.elim
  · obtain ⟨mu, xi, ds, st, r, c, h⟩ := h
    unfold fn at h
    split at h
    · rename_i hl
      have tk : Takes (cxOf (L2.CX P w) P w K mg base N qual scope f cdv A outer s H E) (WXe E) := takes_of (X := cxOf (L2.CX P w) P w K mg base N qual scope f cdv A outer s H E) rfl rfl rfl rfl
      have hp : PassesOwn (model P w) (A.deeper (envOfC qual scope s.heap.objs.size f cdv)) (envOfC qual scope s.heap.objs.size f cdv) (cxOf (L2.CX P w) P w K mg base N qual scope f cdv A outer s H E).xe := passes_of (X := cxOf (L2.CX P w) P w K mg base N qual scope f cdv A outer s H E) rfl
      refine ⟨_, hbody cdv A outer s H E hr tk hp, mu, xi, _, st, REnv.start r, c, ?_⟩
      rw [← hl] at h
      exact fnEnd_ok c h
    · exact h.elim
theorem fnd_of {P : Program} {w : World} {mg : Str → Option Value} {base : Heap} {k : Nat} {x qual : Str} {params : Arguments} {body : List Stmt} {scope : Scope} {dvs : List V} {kws : List (Str × V)} {f : Addr} {fd : FuncData} {N ps : List Str} {lv : Bool} {m : MS}
    (F : FunD K x qual params body scope dvs kws f fd) (S : FnScope N ps scope) (hb : Binds K fd ps [])
    (hbody : ∀ (cdv : Value) (A : Around) (outer : List PySem.Env) (s : Shared) (H : Hp) (E : XK), Room k (A.deeper (envOfC qual scope s.heap.objs.size f cdv)) → Takes (cxOf (L2.CX P w) P w K mg base N qual scope f cdv A outer s H E) (WXe E) →
      PassesOwn (model P w) (A.deeper (envOfC qual scope s.heap.objs.size f cdv)) (envOfC qual scope s.heap.objs.size f cdv) (cxOf (L2.CX P w) P w K mg base N qual scope f cdv A outer s H E).xe →
      CSs (cxOf (L2.CX P w) P w K mg base N qual scope f cdv A outer s H E) (WXe E) body m) : FnD P w K mg base (k + 1) f (fn ps.length N.length lv m) := by
  have ok : FnOk P w K mg base (L2.CX P w) (k + 1) f fd ps (spM K (fn ps.length N.length lv m)) := fnok_of F S hb hbody
  refine ⟨fun A outer s H us vs Q E hr e0 r h => ?_, F.kp⟩
  have hl : us.length = ps.length := by rw [← r.length]; exact ok.len _ _ _ _ h
  have b := hb s us (e0.mod.kin.keeps fun b o e => (e0.bs b o e).1) (by rw [List.append_nil]; exact hl)
  rw [List.append_nil] at b
  exact ok.run A outer s H ⟨us, []⟩ us vs Q E hr e0 b r h
end
section
variable {X : Cx} {Wx : WX} {a b c e o : Expr} {es : List Expr} {ma mb mc me mo : M D} {ms : M (List D)} {pos p2 p apos : Pos}
/-- the callee runs -/
theorem FnD.run {lv : Nat} {f : Addr} {F : DF} (G : FnD X.prog X.w X.K X.mg X.base lv f F) (hr : Room lv X.A) (tk : Takes X Wx) {pins : List (Addr × Obj)} {s : Shared} {σ : L2.St} {w : Wd} {st : Sto} {ds : List D} {vs : List V} {us : List Value} {Q : VK} (I : Inv X pins σ w.H s)
    (c : Corr X.K w st) (r : Rels X.K w ds vs) (rv : Vals vs us) (h : Post X.K (Rel X.K) w σ Wx Q (F ds st)) : wpAny (model X.prog X.w) X.A (call (.ref f) us) (EP X pins σ Q) X.xe s := by
  have hx : PassesAt (L2.CX X.prog X.w) X σ (WE Wx σ) := passAt tk σ
  refine wpAny_call (codeAny_mono (G.ex X.A X.stack s w.H us vs Q (WE Wx σ) hr I.env0 rv ⟨w.mu, w.xi, ds, st, r, c, ?_⟩) fun r s' hq => ?_)
  rotate_left
  · cases r with
    | error e => exact hx pins w.H s e s' I hq
    | ok fl =>
      cases fl with
      | ret u => exact I.after hq
      | next => exact False.elim hq
      | brk => exact False.elim hq
      | cont => exact False.elim hq
  cases e : F ds st with
  | ok d st' =>
    rw [e] at h
    exact h
  | exc k fs xs st' =>
    rw [e] at h
    exact h
  | bad =>
    rw [e] at h
    exact h
theorem FnD.callD {lv : Nat} {f : Addr} {F : DF} (G : FnD X.prog X.w X.K X.mg X.base lv f F) (hr : Room lv X.A) (tk : Takes X Wx) : CallD X Wx (.ref f) F := fun pins s σ w st ds vs us Q I c r rv h => G.run hr tk I c r rv h
/-- a def of the module -/
structure FnG (P : Program) (w : World) (K : PySem.W.Frag) (mg : Str → Option Value) (base : Heap) (lv : Nat) (x : Str) (F : DF) : Prop where
  ex : ∃ f, mg x = some (.ref f) ∧ FnD P w K mg base lv f F
theorem ce_call {lv : Nat} {x : Str} {F : DF} (G : FnG X.prog X.w X.K X.mg X.base lv x F) (hr : Room lv X.A) (tk : Takes X Wx) (ha : CA X Wx (e :: es) ms) (hg : Gl X x := by rfl) (hdb : (x == ("__debug__" : Str)) = false := by decide)
    (he : starEach (e :: es) X.env = (false, eval e X.env) :: starEach es X.env := by rfl) (hpl : (backTo pos (starEach es X.env)).any (·.1) = false := by rfl) : CE X Wx (.Call (.Name x p) (e :: es) [] pos) (eC F ms) := by
  refine ⟨fun pins s σ H Q I h => ?_⟩
  obtain ⟨mu, xi, env, st, re, c, h⟩ := h
  obtain ⟨f, hm, G⟩ := G.ex
  refine wpAny_Call_Name_kw (ld_glob I hg hm ?_ hdb)
  refine PySem.W.callWith_K (h₀ := X.base) I.ok.mod.kin G.kp (thn (ha.run pos pins s σ H _ I (tG_bind (R := Rels X.K) re c h)) fun us s1 ⟨vs, H1, I1, rv, mu1, xi1, d, st1, l1, r1, c1, re1, p1⟩ => ⟨I1.kIn, ?_⟩) he hpl
  exact G.run (w := ⟨H1, mu1, xi1⟩) hr tk I1 c1 r1 rv p1
def eC0 (F : DF) : M D := fun _ st => F [] st
theorem ce_call0 {lv : Nat} {x : Str} {F : DF} (G : FnG X.prog X.w X.K X.mg X.base lv x F) (hr : Room lv X.A) (tk : Takes X Wx) (hg : Gl X x := by rfl) (hdb : (x == ("__debug__" : Str)) = false := by decide) : CE X Wx (.Call (.Name x p) [] [] pos) (eC0 F) := by
  refine ⟨fun pins s σ H Q I h => ?_⟩
  obtain ⟨mu, xi, env, st, re, c, h⟩ := h
  obtain ⟨f, hm, G⟩ := G.ex
  refine wpAny_Call_Name_kw (ld_glob I hg hm ?_ hdb)
  exact PySem.W.callWith_K0 I.kIn G.kp (G.run (w := ⟨H, mu, xi⟩) (us := []) hr tk I c .nil .nil h)

/-! ### instances -/
/-- an instance's class, its fields -/
def insD (st : Sto) : D → Option (String × List String × List D)
  | .ins k fs xs => some (k, fs, xs)
  | .ref n => match st[n]? with
    | some (.ins k fs xs) => some (k, fs, xs)
    | _ => none
  | _ => none
theorem insD_ok {K : PySem.W.Frag} {w : Wd} {st : Sto} {d : D} {v : V} {k : String} {fs : List String} {xs : List D} (c : Corr K w st) (r : Rel K w d v) (h : insD st d = some (k, fs, xs)) :
    ∃ a dx gs, v = .ref a ∧ w.H a = some (.ins (gaS K k) dx gs) ∧ gs.map (·.1) = fs.map Str.ofString ∧ Rels K w xs (gs.map (·.2)) := by
  cases d with
  | ins k' fs' xs' =>
    cases h
    unfold Rel at r
    obtain ⟨a, dx, gs, e, q, s, t⟩ := r
    exact ⟨a, dx, gs, e, fr_here q, s, t⟩
  | ref n =>
    unfold Rel at r
    obtain ⟨a, e, q⟩ := r
    have h2 : (match st[n]? with
      | some (.ins k fs xs) => some (k, fs, xs)
      | _ => none) = some (k, fs, xs) := h
    split at h2
    · rename_i k' fs' xs' hx
      cases h2
      obtain ⟨u, hu, dx, gs, e2, s, t⟩ := c.obj n a _ q hx
      subst e2
      exact ⟨a, dx, gs, e, hu, s, t⟩
    · cases h2
  | _ => cases h
/-- a field by its name -/
def fget : List String → List D → String → Option D
  | f :: fs, x :: xs, g => if f = g then some x else fget fs xs g
  | _, _, _ => none
theorem fget_ok {K : PySem.W.Frag} {w : Wd} : ∀ {fs : List String} {xs : List D} {gs : List (Str × V)} {g : String} {d : D}, gs.map (·.1) = fs.map Str.ofString → Rels K w xs (gs.map (·.2)) → fget fs xs g = some d → ∃ v, gs.lookup (Str.ofString g) = some v ∧ Rel K w d v
  | [], _, _, _, _, _, _, h => by
    unfold fget at h
    cases h
  | _ :: _, [], _, _, _, _, _, h => by
    unfold fget at h
    cases h
  | f :: fs, x :: xs, [], _, _, e, _, _ => by cases e
  | f :: fs, x :: xs, (k, u) :: gs, g, d, e, r, h => by
    rw [List.map_cons, List.map_cons] at e
    injection e with e1 e2
    rw [List.map_cons] at r
    obtain ⟨v, rr, e3, q, s⟩ := r.inv
    injection e3 with e3 e4
    subst e3 e4
    unfold fget at h
    have e1' : k = Str.ofString f := e1
    subst e1'
    rw [List.lookup_cons]
    by_cases hfg : f = g
    · rw [if_pos hfg] at h
      cases h
      subst hfg
      rw [beq_self_eq_true]
      exact ⟨u, rfl, q⟩
    · rw [if_neg hfg] at h
      have : (Str.ofString g == Str.ofString f) = false := beq_eq_false_iff_ne.mpr fun e => hfg (ofString_inj e.symm)
      rw [this]
      exact fget_ok e2 s h
theorem fget_none {fs : List String} {gs : List (Str × V)} {g : String} (e : gs.map (·.1) = fs.map Str.ofString) (h : g ∉ fs) : gs.lookup (Str.ofString g) = none := by
  induction fs generalizing gs with
  | nil =>
    cases gs with
    | nil => rfl
    | cons x y => cases e
  | cons f fs ih =>
    cases gs with
    | nil => cases e
    | cons x y =>
      obtain ⟨k, u⟩ := x
      rw [List.map_cons, List.map_cons] at e
      injection e with e1 e2
      have e1' : k = Str.ofString f := e1
      subst e1'
      rw [List.lookup_cons]
      have : (Str.ofString g == Str.ofString f) = false := beq_eq_false_iff_ne.mpr fun e => h (by rw [ofString_inj e]; exact List.mem_cons_self)
      rw [this]
      exact ih e2 fun q => h (List.mem_cons_of_mem _ q)
/-- what a class's plain fields ask -/
abbrev FT : Type := List (String × String)
structure FlD (K : PySem.W.Frag) (k f : String) : Prop where
  cl : Cls K (gaS K k)
  no : NoAttr K (gaS K k) (Str.ofString f)
def FlOk (K : PySem.W.Frag) (ft : FT) : Prop := ∀ q ∈ ft, FlD K q.1 q.2
theorem FlOk.nil {K : PySem.W.Frag} : FlOk K [] := fun q h => by cases h
theorem FlOk.cons {K : PySem.W.Frag} {k f : String} {ft : FT} (h : FlD K k f) (t : FlOk K ft) : FlOk K ((k, f) :: ft) := fun q hq => by
  rcases List.mem_cons.mp hq with e | hq
  · subst e
    exact h
  · exact t q hq
def eFld (ft : FT) (f : String) (mo : M D) : M D := fun env st => (mo env st).bind fun x s1 => match insD s1 x with
  | some (k, fs, xs) => if (k, f) ∈ ft then (match fget fs xs f with
    | some d => .ok d s1
    | none => .bad) else .bad
  | none => .bad
theorem ce_fld {ft : FT} {f : String} {fn : Str} (hf : FlOk X.K ft) (ho : CE X Wx o mo) (en : fn = Str.ofString f := by rfl) (hb : attributeBase o fn X.env (eval o X.env) = eval o X.env := by rfl) : CE X Wx (.Attribute o fn pos) (eFld ft f mo) := by
  subst en
  refine PE.mono (pe_fld ho hb) fun σ H Q h => ?_
  obtain ⟨mu, xi, env, st, re, c, h⟩ := h
  refine tG_mono (tG_bind (R := Rel X.K) re c h) fun v H1 ⟨mu1, xi1, d, st1, l1, r1, c1, re1, p1⟩ => ?_
  split at p1
  · rename_i k fs xs e1
    split at p1
    · rename_i hm
      split at p1
      · rename_i d' e2
        obtain ⟨a1, dx, gs, e, q, s, t⟩ := insD_ok c1 r1 e1
        obtain ⟨v', hv, rv⟩ := fget_ok s t e2
        obtain ⟨f1, f2⟩ := hf _ hm
        exact ⟨a1, _, dx, gs, v', e, q, f1, f2, hv, p1 ⟨H1, mu1, xi1⟩ v' (.refl _) rv c1⟩
      · exact p1.elim
    · exact p1.elim
  · exact p1.elim
/-- self.f = e -/
def fput : List String → List D → String → D → List String × List D
  | f :: fs, x :: xs, g, y => if f = g then (f :: fs, y :: xs) else (f :: (fput fs xs g y).1, x :: (fput fs xs g y).2)
  | _, _, g, y => ([g], [y])
theorem fput_ok {K : PySem.W.Frag} {w : Wd} : ∀ {fs : List String} {xs : List D} {gs : List (Str × V)} {g : String} {y : D} {v : V}, gs.map (·.1) = fs.map Str.ofString → Rels K w xs (gs.map (·.2)) → Rel K w y v →
    (putF (Str.ofString g) v gs).map (·.1) = (fput fs xs g y).1.map Str.ofString ∧ Rels K w (fput fs xs g y).2 ((putF (Str.ofString g) v gs).map (·.2))
  | [], xs, gs, g, y, v, e, r, ry => by
    cases gs with
    | nil =>
      cases xs with
      | nil => exact ⟨rfl, .cons ry .nil⟩
      | cons x xs =>
        have := r.length
        simp at this
    | cons _ _ => cases e
  | f :: fs, [], gs, g, y, v, e, r, ry => by
    cases gs with
    | nil => cases e
    | cons _ _ =>
      have := r.length
      simp at this
  | f :: fs, x :: xs, [], _, _, _, e, _, _ => by cases e
  | f :: fs, x :: xs, (k, u) :: gs, g, y, v, e, r, ry => by
    rw [List.map_cons, List.map_cons] at e
    injection e with e1 e2
    rw [List.map_cons] at r
    obtain ⟨v', rr, e3, q, s⟩ := r.inv
    injection e3 with e3 e4
    subst e3 e4
    have e1' : k = Str.ofString f := e1
    subst e1'
    have ih := fput_ok (g := g) e2 s ry
    unfold fput putF
    by_cases hfg : f = g
    · subst hfg
      rw [if_pos rfl, if_pos rfl]
      exact ⟨by rw [List.map_cons, List.map_cons, e2], .cons ry s⟩
    · rw [if_neg hfg, if_neg (fun e => hfg (ofString_inj e))]
      exact ⟨by rw [List.map_cons, List.map_cons, ih.1], .cons q ih.2⟩
def sFldD (ft : FT) (f : String) (mo me : M D) : MS := fun env st => (me env st).toS env fun y s1 => (mo env s1).toS env fun x s2 => match x with
  | .ref n => (match s2[n]? with
    | some (.ins k fs xs) => if Ok ((k, f) ∈ ft ∧ fs.length < 1000) then .nx env (s2.set n (.ins k (fput fs xs f y).1 (fput fs xs f y).2)) else .bad
    | _ => .bad)
  | _ => .bad
theorem cs_fld {ft : FT} {f : String} {fn : Str} (hf : FlOk X.K ft) (ho : CE X Wx o mo) (he : CE X Wx e me) (en : fn = Str.ofString f := by rfl) (hs : swapsWith e (some (.Attribute o fn p2)) pos.line X.env = pure false := by rfl) : CS X Wx (.Assign [.Attribute o fn p2] e pos) (sFldD ft f mo me) := by
  subst en
  refine PS.mono (ps_fld ho he hs) fun E σ H h => ?_
  obtain ⟨mu, xi, env, st, re, c, h⟩ := h
  refine tG_mono (tG_bindS (R := Rel X.K) re c h) fun v H1 ⟨mu1, xi1, d, st1, l1, r1, c1, re1, p1⟩ => ?_
  refine tG_mono (tG_bindS (R := Rel X.K) re1 c1 p1) fun v2 H2 ⟨mu2, xi2, d2, st2, l2, r2, c2, re2, p2⟩ => ?_
  split at p2
  · rename_i n
    split at p2
    · rename_i k fs xs hx
      split at p2
      · rename_i hq
        unfold Rel at r2
        obtain ⟨a, e, hn⟩ := r2
        obtain ⟨u, hu, dx, gs, e2, s, t⟩ := c2.obj n a _ hn hx
        subst e2
        obtain ⟨f1, f2⟩ := hf _ hq.1
        obtain ⟨q1, q2⟩ := fput_ok (g := f) s t (r1.le l2)
        obtain ⟨l3, c3⟩ := c2.set (o := .ins (gaS X.K k) dx (putF (Str.ofString f) v gs)) (so := .ins k (fput fs xs f d).1 (fput fs xs f d).2) hn (List.getElem?_eq_some_iff.mp hx).1 ⟨dx, _, rfl, q1, q2⟩
        refine ⟨a, _, dx, gs, e, hu, f1, f2, ?_, p2 _ σ l3 (re2.le l3) c3⟩
        have := congrArg List.length s
        rw [List.length_map, List.length_map] at this
        rw [this]
        exact hq.2
      · exact p2.elim
    · exact p2.elim
  · exact p2.elim

/-! ### methods -/
abbrev MT : Type := List (String × String × DF)
def mfind : MT → String → String → Option DF
  | [], _, _ => none
  | (k', m', F) :: r, k, m => if k' = k ∧ m' = m then some F else mfind r k m
structure MtD (P : Program) (w : World) (K : PySem.W.Frag) (mg : Str → Option Value) (base : Heap) (lv : Nat) (k m : String) (F : DF) : Prop where
  cl : Cls K (gaS K k)
  ex : ∃ f, Meth K (gaS K k) (Str.ofString m) f ∧ FnD P w K mg base lv f F
def MtOk (X : Cx) (mt : MT) : Prop := ∀ k m F, mfind mt k m = some F → ∃ lv, Room lv X.A ∧ MtD X.prog X.w X.K X.mg X.base lv k m F
theorem MtOk.nil : MtOk X [] := fun k m F h => by cases h
theorem MtOk.cons {lv : Nat} {k m : String} {F : DF} {mt : MT} (hr : Room lv X.A) (h : MtD X.prog X.w X.K X.mg X.base lv k m F) (t : MtOk X mt) : MtOk X ((k, m, F) :: mt) := fun k' m' F' h' => by
  unfold mfind at h'
  split at h'
  · rename_i e
    cases h'
    rw [← e.1, ← e.2]
    exact ⟨lv, hr, h⟩
  · exact t k' m' F' h'
def eMeth (mt : MT) (m : String) (mo : M D) (ms : M (List D)) : M D := fun env st => (mo env st).bind fun x s1 => match insD s1 x with
  | some (k, fs, _) => (match mfind mt k m with
    | some F => if m ∈ fs then .bad else (ms env s1).bind fun ds s2 => F (x :: ds) s2
    | none => .bad)
  | none => .bad
theorem ce_meth {mt : MT} {m : String} {mn : Str} {pl : Sem Bool} (hm : MtOk X mt) (tk : Takes X Wx) (ho : CE X Wx o mo) (ha : CA X Wx (e :: es) ms) (en : mn = Str.ofString m := by rfl)
    (hst : starEach (e :: es) X.env = (false, eval e X.env) :: starEach es X.env := by rfl) (hpl : (backTo pos (starEach es X.env)).any (·.1) = false := by rfl)
    (ht : eval (.Call (.Attribute o mn apos) (e :: es) [] pos) X.env = (do
      let ov ← eval o X.env
      standAt apos.atName
      let (f, first) ← holding [ov] (getMethod ov mn pl)
      callWith pos f first (backTo pos (starEach (e :: es) X.env)) (backToKw pos (keywordEach [] X.env))) := by rfl) :
    CE X Wx (.Call (.Attribute o mn apos) (e :: es) [] pos) (eMeth mt m mo ms) := by
  subst en
  refine ⟨fun pins s σ H Q I h => ?_⟩
  obtain ⟨mu, xi, env, st, re, c, h⟩ := h
  refine PySem.W.methodCall_KW (pl := pl) (thn (ho.run pins s σ H _ I (tG_bind (R := Rel X.K) re c h)) fun u s1 ⟨x, H1, I1, rx, mu1, xi1, d, st1, l1, r1, c1, re1, p1⟩ => ?_) ht
  split at p1
  · rename_i k fs xs e1
    split at p1
    · rename_i F e2
      split at p1
      · exact p1.elim
      · rename_i hnf
        obtain ⟨a1, dx, gs, ea, q, s, t⟩ := insD_ok c1 r1 e1
        subst ea
        obtain ⟨lv, hr, cl, f, mth, G⟩ := hm k m F e2
        obtain rfl : u = Value.ref a1 := rx
        refine getmeth_ok I1 q cl mth (fget_none s hnf) ?_
        refine PySem.W.callWith_K (first := [.ref a1]) (h₀ := X.base) I.ok.mod.kin mth.kp (thn (ha.run pos pins s1 σ H1 _ I1 (tG_bind (R := Rels X.K) re1 c1 p1)) fun us s2 ⟨vs, H2, I2, rv, mu2, xi2, ds, st2, l2, r2, c2, re2, p2⟩ => ⟨I2.kIn, ?_⟩) hst hpl
        exact G.run (w := ⟨H2, mu2, xi2⟩) (us := .ref a1 :: us) (vs := .ref a1 :: vs) (ds := d :: ds) hr tk I2 c2 (.cons (r1.le l2) r2) (.cons rfl rv) p2
    · exact p1.elim
  · exact p1.elim
theorem ce_meth0 {mt : MT} {m : String} {mn : Str} {pl : Sem Bool} (hm : MtOk X mt) (tk : Takes X Wx) (ho : CE X Wx o mo) (en : mn = Str.ofString m := by rfl)
    (ht : eval (.Call (.Attribute o mn apos) [] [] pos) X.env = (do
      let ov ← eval o X.env
      standAt apos.atName
      let (f, first) ← holding [ov] (getMethod ov mn pl)
      callWith pos f first (backTo pos (starEach [] X.env)) (backToKw pos (keywordEach [] X.env))) := by rfl) :
    CE X Wx (.Call (.Attribute o mn apos) [] [] pos) (eMeth mt m mo aNil) := by
  subst en
  refine ⟨fun pins s σ H Q I h => ?_⟩
  obtain ⟨mu, xi, env, st, re, c, h⟩ := h
  refine PySem.W.methodCall_KW (pl := pl) (thn (ho.run pins s σ H _ I (tG_bind (R := Rel X.K) re c h)) fun u s1 ⟨x, H1, I1, rx, mu1, xi1, d, st1, l1, r1, c1, re1, p1⟩ => ?_) ht
  split at p1
  · rename_i k fs xs e1
    split at p1
    · rename_i F e2
      split at p1
      · exact p1.elim
      · rename_i hnf
        obtain ⟨a1, dx, gs, ea, q, s, t⟩ := insD_ok c1 r1 e1
        subst ea
        obtain ⟨lv, hr, cl, f, mth, G⟩ := hm k m F e2
        obtain rfl : u = Value.ref a1 := rx
        refine getmeth_ok I1 q cl mth (fget_none s hnf) ?_
        exact PySem.W.callWith_K0 (first := [.ref a1]) I1.kIn mth.kp (G.run (w := ⟨H1, mu1, xi1⟩) (us := [.ref a1]) (vs := [.ref a1]) (ds := [d]) hr tk I1 c1 (.cons r1 .nil) (.cons rfl .nil) p1)
    · exact p1.elim
  · exact p1.elim

/-! ### making an instance -/
noncomputable def mkI (k : String) (F : DF) (lv : Bool) : DF := fun ds st => match F (.ref st.length :: ds) (st ++ [.ins k [] []]) with
  | .ok .non s2 => if lv = true then .ok (.ref st.length) s2 else fin st (.ref st.length) s2
  | .exc k fs xs s2 => excEnd st k fs xs s2
  | _ => .bad
structure MkD (P : Program) (w : World) (K : PySem.W.Frag) (mg : Str → Option Value) (base : Heap) (lv : Nat) (k : String) (F : DF) : Prop where
  glo : mg (Str.ofString k) = some (.ref (gaS K k))
  ex : ∃ f, Mk K (gaS K k) f ∧ FnD P w K mg base lv f F
theorem run_makeSD {C f : Addr} {k : Nat} {sp : Sp} {E : L2.St → XK} {pins : List (Addr × Obj)} {σ : L2.St} {H : Hp} {s : Shared} {Q : VK} {us : List Value} {vs : List V} (M : Mk X.K C f) (F : FnR X.prog X.w X.K X.mg X.base (L2.CX X.prog X.w) k f sp) (hr : Room (k + 1) X.A)
    (hx : PassesAt (L2.CX X.prog X.w) X σ (E σ)) (I : Inv X pins σ H s) (r : Vals vs us)
    (h : ∀ x dx, H x = none → H dx = none → dx ≠ x → sp (.ref x :: vs) (upd (upd H dx (.own x)) x (.ins C dx [])) (fun v H2 => v = .non ∧ Q (.ref x) H2) (E σ)) :
    wpAny (model X.prog X.w) X.A (call (.ref C) us) (EP X pins σ Q) X.xe s := by
  have hq := h (s.heap.objs.size + 1) s.heap.objs.size (I.hok.fresh (Nat.le_succ _)) (I.hok.fresh (Nat.le_refl _)) (Nat.ne_of_lt (Nat.lt_succ_self _))
  have I2 := Inv.made (C := C) I
  have r2 : Vals (V.ref (s.heap.objs.size + 1) :: vs) (Value.ref (s.heap.objs.size + 1) :: us) := .cons rfl r
  refine wpAny_call (make_map (f := f) I.kIn M.makes M.init (beq_iff_eq.mp M.fn) (codeAny_mono (F _ X.stack _ _ (Value.ref (s.heap.objs.size + 1) :: us) _ _ (E σ) (hr.make C us []) (I2.env0.make C us []) r2 hq) fun r s' hq' => ?_))
  cases r with
  | error e => exact hx pins _ _ e s' I2 hq'
  | ok fl =>
    cases fl with
    | ret u =>
      obtain ⟨v, H', I3, rv, ev, q3⟩ := I2.after hq'
      subst ev
      exact ⟨rv, ⟨V.ref (s.heap.objs.size + 1), H', I3, rfl, q3⟩⟩
    | next => exact False.elim hq'
    | brk => exact False.elim hq'
    | cont => exact False.elim hq'
theorem mk_callD {lv : Nat} {k : String} {F : DF} {live : Bool} (G : MkD X.prog X.w X.K X.mg X.base lv k F) (hr : Room (lv + 1) X.A) (tk : Takes X Wx) : CallD X Wx (.ref (gaS X.K k)) (mkI k F live) := by
  intro pins s σ w st ds vs us Q I c r rv h
  obtain ⟨f, mk, G⟩ := G.ex
  refine run_makeSD (E := WE Wx) mk G.ex hr (passAt tk σ) I rv fun x dx hx hdx ne => ?_
  -- the new instance's own dict, then the instance
  obtain ⟨l1, c1, e1⟩ := c.new (.own x) hdx
  have hx1 : (upd w.H dx (.own x)) x = none := by
    rw [upd_ne ne.symm]
    exact hx
  obtain ⟨l2, c2, e2⟩ := c1.push (.ins (gaS X.K k) dx []) (.ins k [] []) hx1 ⟨dx, [], rfl, rfl, .nil⟩
  have r2 : Rels X.K ⟨upd (upd w.H dx (.own x)) x (.ins (gaS X.K k) dx []), w.mu ++ [x], w.xi⟩ (.ref st.length :: ds) (.ref x :: vs) := .cons (by unfold Rel; exact ⟨x, rfl, e2⟩) ((r.le l1).le l2)
  refine ⟨w.mu ++ [x], w.xi, _, _, r2, c2, ?_⟩
  unfold mkI at h
  have l12 := l1.trans l2
  cases ef : F (.ref st.length :: ds) (st ++ [.ins k [] []]) with
  | bad =>
    rw [ef] at h
    exact h.elim
  | exc k' fs xs st' =>
    rw [ef] at h
    intro w' dd l' c' x'
    exact excEnd_ok c (l12.trans l') c' x' h
  | ok d st' =>
    rw [ef] at h
    intro w' v l' rd c'
    cases d with
    | non =>
      have h2 : Post X.K (Rel X.K) w σ Wx Q (if live = true then Res.ok (.ref st.length) st' else fin st (.ref st.length) st') := h
      unfold Rel at rd
      refine ⟨rd, ?_⟩
      have L := l12.trans l'
      have rx : Rel X.K w' (.ref st.length) (.ref x) := by
        unfold Rel
        refine ⟨x, rfl, ?_⟩
        obtain ⟨t, ht⟩ := l'.sub.mu
        rw [← ht, List.getElem?_append_left (List.getElem?_eq_some_iff.mp e2).1]
        exact e2
      cases live with
      | true => exact h2 w' _ L rx c'
      | false =>
        have h3 : Post X.K (Rel X.K) w σ Wx Q (fin st (.ref st.length) st') := h2
        cases eg : fin st (.ref st.length) st' with
        | ok d2 s2 =>
          rw [eg] at h3
          obtain ⟨l3, c3, r3⟩ := fin_ok L c c' rx eg
          exact h3 (w.back w') _ l3 r3 c3
        | exc _ _ _ _ =>
          unfold fin at eg
          split at eg <;> cases eg
        | bad =>
          rw [eg] at h3
          exact h3.elim
    | _ => exact h.elim
end
end ND
end
noncomputable section
namespace ND
open PySem L2 PyProof.Rows
section
variable {X : Cx} {Wx : WX} {a b c e o tg : Expr} {es : List Expr} {ma mb mc me mo : M D} {ms : M (List D)} {pos p2 p apos cpos tpos : Pos}
/-! ### sources -/
/-- what is tracked is nothing of the written part -/
theorem not_written {pins : List (Addr × Obj)} {σ : L2.St} {H : Hp} {s : Shared} (I : Inv X pins σ H s) {q : Addr} {u : HO} (h : H q = some u) : X.K.lookup q = none := by
  cases e : X.K.lookup q with
  | none => rfl
  | some o =>
    have hb := I.ok.mod.kin q o e
    obtain ⟨h0, hn⟩ := I.ok.bs q o hb
    have := I.base.free q o h0 hn (I.ok.noex q o hb)
    rw [h] at this
    cases this
/-- a frozen list, a tuple -/
theorem wk_fzL {K : PySem.W.Frag} {w₀ : Wd} {q : Addr} {xs : List D} {vs : List V} (h : SqL K w₀.fr q vs) (s : Rels K w₀ xs vs) : Wk K w₀ (.fz xs) (Itl K q) := fun i w st l c => by
  have h' : SqL K w.H q vs := ex_l (fun _ _ => fr_here) (ex_l l.fr h)
  refine ⟨fun e => ⟨vs, h', ?_⟩, fun d e => ?_⟩
  · have e2 : xs[i]? = none := Option.some.inj e
    rw [← s.length]
    exact List.getElem?_eq_none_iff.mp e2
  · have e2 : xs[i]? = some d := Option.some.inj e
    obtain ⟨v, hv, rv⟩ := s.get e2
    refine ⟨⟨vs, v, h', hv⟩, fun x H' y => ?_⟩
    obtain ⟨eH, y⟩ := y
    subst eH
    have e3 := y vs h'
    rw [hv] at e3
    cases e3
    exact ⟨fun _ _ z => z, Rel.sub l _ _ rv⟩
theorem wk_fzT {K : PySem.W.Frag} {w₀ : Wd} {q : Addr} {xs : List D} {vs : List V} (h : SqT K w₀.fr q vs) (s : Rels K w₀ xs vs) : Wk K w₀ (.fz xs) (Itt K q) := fun i w st l c => by
  have h' : SqT K w.H q vs := ex_t (fun _ _ => fr_here) (ex_t l.fr h)
  refine ⟨fun e => ⟨vs, h', ?_⟩, fun d e => ?_⟩
  · have e2 : xs[i]? = none := Option.some.inj e
    rw [← s.length]
    exact List.getElem?_eq_none_iff.mp e2
  · have e2 : xs[i]? = some d := Option.some.inj e
    obtain ⟨v, hv, rv⟩ := s.get e2
    refine ⟨⟨vs, v, h', hv⟩, fun x H' y => ?_⟩
    obtain ⟨eH, y⟩ := y
    subst eH
    have e3 := y vs h'
    rw [hv] at e3
    cases e3
    exact ⟨fun _ _ z => z, Rel.sub l _ _ rv⟩
/-- the one list that stands at an address -/
theorem lst_one {K : PySem.W.Frag} {H : Hp} {q : Addr} {vs : List V} (h : H q = some (.lst vs)) {xs : List V} (h' : Rd H q (.lst xs)) : xs = vs := by
  rcases h' with h' | ⟨o, h'⟩
  · rw [h] at h'
    cases h'
    rfl
  · rw [h] at h'
    cases h'
/-- a live list -/
theorem wk_lv {K : PySem.W.Frag} {w₀ : Wd} {q : Addr} {k n : Nat} (h : w₀.mu[k]? = some q) (hk : K.lookup q = none) : Wk K w₀ (.lv k n) (Itl K q) := fun i w st l c => by
  have hm : w.mu[k]? = some q := by
    obtain ⟨t, ht⟩ := l.mu
    rw [← ht, List.getElem?_append_left (List.getElem?_eq_some_iff.mp h).1]
    exact h
  refine ⟨fun e => ?_, fun d e => ?_⟩
  · have e1 : (match st[k]? with
      | some (.lst xs) => some xs[i]?
      | _ => none) = some none := e
    split at e1
    · rename_i xs hx
      obtain ⟨u, hu, vs, e2, s⟩ := c.obj k q _ hm hx
      subst e2
      refine ⟨vs, .inl (.inl hu), ?_⟩
      rw [← s.length]
      exact List.getElem?_eq_none_iff.mp (Option.some.inj e1)
    · cases e1
  · have e1 : (match st[k]? with
      | some (.lst xs) => some xs[i]?
      | _ => none) = some (some d) := e
    split at e1
    · rename_i xs hx
      obtain ⟨u, hu, vs, e2, s⟩ := c.obj k q _ hm hx
      subst e2
      obtain ⟨v, hv, rv⟩ := s.get (Option.some.inj e1)
      refine ⟨⟨vs, v, .inl (.inl hu), hv⟩, fun x H' y => ?_⟩
      obtain ⟨eH, y⟩ := y
      subst eH
      have e3 := y vs (.inl (.inl hu))
      rw [hv] at e3
      cases e3
      exact ⟨fun _ _ z => z, rv⟩
    · cases e1
theorem wk_str {K : PySem.W.Frag} {w₀ : Wd} {z : Str} : Wk K w₀ (.fz (z.cps.toList.map fun ch => .str ⟨#[ch]⟩)) (Its z) := fun i w st l c => by
  refine ⟨fun e => ?_, fun d e => ?_⟩
  · have e2 : (z.cps.toList.map fun ch => D.str ⟨#[ch]⟩)[i]? = none := Option.some.inj e
    have e3 := List.getElem?_eq_none_iff.mp e2
    rw [List.length_map, Array.length_toList] at e3
    exact e3
  · have e2 : (z.cps.toList.map fun ch => D.str ⟨#[ch]⟩)[i]? = some d := Option.some.inj e
    rw [List.getElem?_map, Array.getElem?_toList] at e2
    cases e3 : z.cps[i]? with
    | none =>
      rw [e3] at e2
      cases e2
    | some ch =>
      rw [e3] at e2
      cases e2
      have hi : i < z.cps.size := by
        rcases Nat.lt_or_ge i z.cps.size with h | h
        · exact h
        · rw [Array.getElem?_eq_none h] at e3
          cases e3
      refine ⟨hi, fun x H' y => ?_⟩
      obtain ⟨eH, c2, h2, e4⟩ := y
      subst eH
      rw [e3] at h2
      cases h2
      subst e4
      exact ⟨fun _ _ z => z, rel_str _ _⟩
def rangeD (lo : Int) (n : Nat) : List D := (List.range n).map fun i : Nat => .int (lo + (i : Int))
theorem wk_rng {K : PySem.W.Frag} {w₀ : Wd} {lo : Int} {n : Nat} : Wk K w₀ (.fz (rangeD lo n)) (Itr lo n) := fun i w st l c => by
  unfold rangeD
  refine ⟨fun e => ?_, fun d e => ?_⟩
  · have e2 : ((List.range n).map fun i : Nat => D.int (lo + (i : Int)))[i]? = none := Option.some.inj e
    have e3 := List.getElem?_eq_none_iff.mp e2
    rw [List.length_map, List.length_range] at e3
    exact e3
  · have e2 : ((List.range n).map fun i : Nat => D.int (lo + (i : Int)))[i]? = some d := Option.some.inj e
    rw [List.getElem?_map] at e2
    by_cases hi : i < n
    · rw [List.getElem?_range hi] at e2
      cases e2
      refine ⟨hi, fun x H' y => ?_⟩
      obtain ⟨eH, y⟩ := y
      subst eH y
      exact ⟨fun _ _ z => z, rel_int _ _⟩
    · rw [List.getElem?_eq_none (by rw [List.length_range]; exact Nat.le_of_not_lt hi)] at e2
      cases e2
/-- a value walked: a list, a tuple, a text -/
def srcD (x : D) (st : Sto) : Res Src := match x with
  | .str z => .ok (.fz (z.cps.toList.map fun ch => .str ⟨#[ch]⟩)) st
  | .tup xs => .ok (.fz xs) st
  | .lst xs => .ok (.fz xs) st
  | .ext ns => .ok (.fz (ns.map .int)) st
  | .ref k => match st[k]? with
    | some (.lst xs) => .ok (.lv k xs.length) st
    | _ => .bad
  | _ => .bad
def iVal (m : M D) : M Src := fun env st => (m env st).bind srcD
theorem ci_val (hl : CE X Wx o mo) : CI X Wx tg o (iVal mo) := by
  refine ⟨fun pins s σ H R I h => ?_⟩
  obtain ⟨mu, xi, env, st, re, c, h⟩ := h
  refine thn (hl.run pins s σ H _ I (tG_bind (R := Rel X.K) re c h)) fun v s1 ⟨x, H1, I1, rv, mu1, xi1, d, st1, l1, r1, c1, re1, p1⟩ => ?_
  have goL : ∀ (a : Addr) (S : Src), x = .ref a → (∃ xs, SqL X.K H1 a xs) → Wk X.K ⟨H1, mu1, xi1⟩ S (Itl X.K a) → (∀ w' J, Wd.Le ⟨H1, mu1, xi1⟩ w' → Wk X.K w' S J → Corr X.K w' st1 → R J w'.H) →
      wpAny (model X.prog X.w) X.A (pyIter v) (PIE X pins σ tg R) X.xe s1 := by
    intro a S e ⟨xs, hq⟩ wk q
    subst e
    cases rv
    obtain ⟨its, rv, p, hz⟩ := I1.list hq
    refine wpAny_pyIter_list p.isList ?_
    refine ⟨s1.heap.objs.size, [s1.heap.objs.size], _, _, H1, rfl, I1.kept (t' := s1.toks) fun b o e => Heap.get?_push_of_some _ e, turn_list a _, ⟨_, Heap.get?_push_size _ rfl, rfl, rfl⟩, fun b hb => ?_, q ⟨H1, mu1, xi1⟩ _ (.refl _) wk c1⟩
    have e : b = s1.heap.objs.size := by simpa using hb
    subst e
    exact I1.fpOk (Nat.le_refl _) (I1.hok.fresh (Nat.le_refl _))
  cases d with
  | str z =>
    unfold Rel at r1
    subst r1
    obtain ⟨t, rfl⟩ := rv
    have q := p1 ⟨H1, mu1, xi1⟩ (Its z) (.refl _) wk_str c1
    cases ha : z.cps.all (· < 128)
    · exact wpAny_pyIter_wide ha (pi_one (tk := s1.toks) I1 _ (turn_str _ z t "str_iterator" (.inr rfl)) ⟨_, Heap.get?_push_size _ rfl, rfl, rfl⟩ q)
    · exact wpAny_pyIter_ascii ha (pi_one (tk := s1.toks) I1 _ (turn_str _ z t "str_ascii_iterator" (.inl rfl)) ⟨_, Heap.get?_push_size _ rfl, rfl, rfl⟩ q)
  | tup xs =>
    unfold Rel at r1
    obtain ⟨a, vs, e, q, sr⟩ := r1
    subst e
    cases rv
    obtain ⟨its, rv, p, hz⟩ := I1.tuple (.inl (.inl (fr_here q)))
    refine wpAny_pyIter_tuple (show s1.heap.IsTuple a its.toArray from p) ?_
    refine ⟨s1.heap.objs.size, [s1.heap.objs.size], _, _, H1, rfl, I1.kept (t' := s1.toks) fun b o e => Heap.get?_push_of_some _ e, turn_tuple a _, ⟨_, Heap.get?_push_size _ rfl, rfl, rfl⟩, fun b hb => ?_, p1 ⟨H1, mu1, xi1⟩ _ (.refl _) (wk_fzT (.inl (.inl q)) sr) c1⟩
    have e : b = s1.heap.objs.size := by simpa using hb
    subst e
    exact I1.fpOk (Nat.le_refl _) (I1.hok.fresh (Nat.le_refl _))
  | lst xs =>
    unfold Rel at r1
    obtain ⟨a, vs, e, q, sr⟩ := r1
    exact goL a _ e ⟨vs, .inl (.inl (fr_here q))⟩ (wk_fzL (.inl (.inl q)) sr) p1
  | ext ns =>
    unfold Rel at r1
    obtain ⟨a, e, q⟩ := r1
    exact goL a _ e ⟨_, ex_l (fun _ _ => fr_here) q⟩ (wk_fzL q (Rels.ofInts ns)) p1
  | ref k =>
    unfold Rel at r1
    obtain ⟨a, e, q⟩ := r1
    have p2 : Post X.K (Wk X.K) ⟨H1, mu1, xi1⟩ σ Wx R (match st1[k]? with
      | some (.lst xs) => .ok (.lv k xs.length) st1
      | _ => .bad) := p1
    split at p2
    · rename_i xs hx
      obtain ⟨u, hu, vs, e2, sr⟩ := c1.obj k a _ q hx
      subst e2
      exact goL a _ e ⟨vs, .inl (.inl hu)⟩ (wk_lv q (not_written I1 hu)) p2
    · exact p2.elim
  | _ => exact p1.elim
def iR1 (m : M D) : M Src := fun env st => (m env st).bind fun d s1 => match d with
  | .int j => if Ok (-(2 ^ 62) ≤ j ∧ j < 2 ^ 62) then .ok (.fz (rangeD 0 j.toNat)) s1 else .bad
  | _ => .bad
theorem ci_range1 (hm : X.mg "range" = none) (ha : CE X Wx a ma) (hg : Gl X "range" := by rfl) (hs : starEach [a] X.env = [(false, eval a X.env)] := by rfl) : CI X Wx tg (.Call (.Name "range" p) [a] [] pos) (iR1 ma) := PI.mono (pi_range1 hg hm (pa_cons ha pa_nil hs) hs) fun σ H R h => by
  obtain ⟨mu, xi, env, st, re, c, h⟩ := h
  refine tG_mono (tG_bind (R := Rel X.K) re c h) fun v H1 ⟨mu1, xi1, d, st1, l1, r1, c1, re1, p1⟩ => ?_
  cases d with
  | int j =>
    unfold Rel at r1
    have p2 : Post X.K (Wk X.K) ⟨H1, mu1, xi1⟩ σ Wx R (if Ok (-(2 ^ 62) ≤ j ∧ j < 2 ^ 62) then .ok (.fz (rangeD 0 j.toNat)) st1 else .bad) := p1
    split at p2
    · rename_i hj
      exact ⟨j, by rw [r1], hj.1, hj.2, p2 ⟨H1, mu1, xi1⟩ _ (.refl _) wk_rng c1⟩
    · exact p2.elim
  | _ => exact p1.elim
def iR2 (m n : M D) : M Src := fun env st => (m env st).bind fun d s1 => (n env s1).bind fun d2 s2 => match d, d2 with
  | .int i, .int j => if Ok (-(2 ^ 62) ≤ i ∧ i < 2 ^ 62 ∧ -(2 ^ 62) ≤ j ∧ j < 2 ^ 62) then .ok (.fz (rangeD i (j - i).toNat)) s2 else .bad
  | _, _ => .bad
theorem ci_range2 (hm : X.mg "range" = none) (ha : CE X Wx a ma) (hb : CE X Wx b mb) (hg : Gl X "range" := by rfl) (hs : starEach [a, b] X.env = [(false, eval a X.env), (false, eval b X.env)] := by rfl) (hs2 : starEach [b] X.env = [(false, eval b X.env)] := by rfl) :
    CI X Wx tg (.Call (.Name "range" p) [a, b] [] pos) (iR2 ma mb) := PI.mono (pi_range2 hg hm (pa_cons ha (pa_cons hb pa_nil hs2) (by rw [hs, hs2])) hs hs2) fun σ H R h => by
  obtain ⟨mu, xi, env, st, re, c, h⟩ := h
  refine tG_mono (tG_bind (R := Rel X.K) re c h) fun v H1 ⟨mu1, xi1, d, st1, l1, r1, c1, re1, p1⟩ => ?_
  refine tG_mono (tG_bind (R := Rel X.K) re1 c1 p1) fun v2 H2 ⟨mu2, xi2, d2, st2, l2, r2, c2, re2, p2⟩ => ?_
  cases d with
  | int i =>
    cases d2 with
    | int j =>
      unfold Rel at r1 r2
      have p3 : Post X.K (Wk X.K) ⟨H2, mu2, xi2⟩ σ Wx R (if Ok (-(2 ^ 62) ≤ i ∧ i < 2 ^ 62 ∧ -(2 ^ 62) ≤ j ∧ j < 2 ^ 62) then .ok (.fz (rangeD i (j - i).toNat)) st2 else .bad) := p2
      split at p3
      · rename_i hj
        exact ⟨i, j, by rw [r1, r2], hj, p3 ⟨H2, mu2, xi2⟩ _ (.refl _) wk_rng c2⟩
      · exact p3.elim
    | _ => exact p2.elim
  | _ => exact p2.elim
/-- enumerate(xs), xs frozen -/
def enumD : Nat → List D → List D
  | _, [] => []
  | i, x :: xs => .tup [.int (i : Int), x] :: enumD (i + 1) xs
theorem enumD_at : ∀ (k : Nat) (xs : List D) (i : Nat), (enumD k xs)[i]? = (xs[i]?).map fun x => .tup [.int ((k + i : Nat) : Int), x]
  | k, [], i => by simp [enumD]
  | k, x :: xs, 0 => by simp [enumD]
  | k, x :: xs, i + 1 => by
    show (enumD (k + 1) xs)[i]? = _
    rw [enumD_at (k + 1) xs i]
    simp only [List.getElem?_cons_succ]
    rw [show k + 1 + i = k + (i + 1) by omega]
theorem enumD_len : ∀ (k : Nat) (xs : List D), (enumD k xs).length = xs.length
  | k, [] => rfl
  | k, x :: xs => by
    show (enumD (k + 1) xs).length + 1 = xs.length + 1
    rw [enumD_len]
theorem wk_enum {K : PySem.W.Frag} {w₀ : Wd} {q : Addr} {xs : List D} {vs : List V} (h : SqL K w₀.fr q vs) (s : Rels K w₀ xs vs) : Wk K w₀ (.fz (enumD 0 xs)) (Ite K q) := fun i w st l c => by
  have h' : SqL K w.H q vs := ex_l (fun _ _ => fr_here) (ex_l l.fr h)
  refine ⟨fun e => ⟨vs, h', ?_⟩, fun d e => ?_⟩
  · have e2 : (enumD 0 xs)[i]? = none := Option.some.inj e
    have e3 := List.getElem?_eq_none_iff.mp e2
    rw [enumD_len] at e3
    rw [← s.length]
    exact e3
  · have e2 : (enumD 0 xs)[i]? = some d := Option.some.inj e
    rw [enumD_at] at e2
    cases e3 : xs[i]? with
    | none =>
      rw [e3] at e2
      cases e2
    | some x0 =>
      rw [e3] at e2
      cases e2
      obtain ⟨v, hv, rv⟩ := s.get e3
      refine ⟨⟨vs, v, h', hv⟩, fun x H' y => ?_⟩
      obtain ⟨T, x1, ex, hT, eH, y⟩ := y
      subst ex eH
      have e4 := y vs h'
      rw [hv] at e4
      cases e4
      obtain ⟨l2, c2, e5⟩ := c.new (.tup [.int (i : Nat), v]) hT
      refine ⟨fun b u hb => by
        rw [upd_ne fun e => by
          rw [e, hT] at hb
          cases hb]
        exact hb, ?_⟩
      unfold Rel
      refine ⟨T, _, rfl, e5, .cons ?_ (.cons ((Rel.sub l _ _ rv).le l2) .nil)⟩
      rw [show (0 + i : Nat) = i by omega]
      exact rel_int _ _
def iEnumD (m : M D) : M Src := fun env st => (m env st).bind fun d s1 => match d with
  | .lst xs => .ok (.fz (enumD 0 xs)) s1
  | _ => .bad
theorem ci_enum {elts : List Expr} {kk : Nat} (hm : X.mg "enumerate" = none) (ha : CE X Wx a ma) (hg : Gl X "enumerate" := by rfl) (hs : starEach [a] X.env = [(false, eval a X.env)] := by rfl) :
    CI X Wx (.Tuple elts kk tpos) (.Call (.Name "enumerate" p) [a] [] pos) (iEnumD ma) := PI.mono (pi_enum hg hm (pa_cons ha pa_nil hs) hs) fun σ H R h => by
  obtain ⟨mu, xi, env, st, re, c, h⟩ := h
  refine tG_mono (tG_bind (R := Rel X.K) re c h) fun v H1 ⟨mu1, xi1, d, st1, l1, r1, c1, re1, p1⟩ => ?_
  cases d with
  | lst xs =>
    unfold Rel at r1
    obtain ⟨q, vs, e, hq, s⟩ := r1
    exact ⟨q, vs, by rw [e], .inl (.inl (fr_here hq)), p1 ⟨H1, mu1, xi1⟩ _ (.refl _) (wk_enum (.inl (.inl hq)) s) c1⟩
  | _ => exact p1.elim

/-! ### comprehensions -/
/-- hidden and shown again -/
theorem hide {K : PySem.W.Frag} {w : Wd} {st : Sto} (c : Corr K w st) {p : Addr} (o : HO) (hp : w.H p = none) :
    let w' : Wd := ⟨upd w.H p o, w.mu, p :: w.xi⟩
    w.Sub w' ∧ Corr K w' st := by
  have pm : p ∉ w.mu := fun h => by
    obtain ⟨u, e⟩ := c.here h
    rw [hp] at e
    cases e
  have px : p ∉ w.xi := fun h => by
    obtain ⟨u, e⟩ := c.hid p h
    rw [hp] at e
    cases e
  have S : w.Sub ⟨upd w.H p o, w.mu, p :: w.xi⟩ := ⟨fun a u h => by
    obtain ⟨h1, h2, h3⟩ := Wd.fr_some.mp h
    have ne : a ≠ p := fun e => by
      rw [e, hp] at h3
      cases h3
    exact Wd.fr_some.mpr ⟨h1, fun q => by
      rcases List.mem_cons.mp q with q | q
      · exact ne q
      · exact h2 q, by
      show upd w.H p o a = some u
      rw [upd_ne ne]
      exact h3⟩, List.prefix_rfl⟩
  refine ⟨S, ⟨c.nd, c.len, fun a ha q => ?_, fun a ha => ?_, fun n a u h1 h2 => ?_⟩⟩
  · rcases List.mem_cons.mp q with q | q
    · exact pm (by rw [← q]; exact ha)
    · exact c.apart a ha q
  · rcases List.mem_cons.mp ha with q | q
    · subst q
      exact ⟨o, upd_same⟩
    · obtain ⟨u, e⟩ := c.hid a q
      refine ⟨u, ?_⟩
      show upd w.H p o a = some u
      rw [upd_ne fun e2 => px (by rw [← e2]; exact q)]
      exact e
  · obtain ⟨v, e, r⟩ := c.obj n a u h1 h2
    refine ⟨v, ?_, RelO.sub S r⟩
    show upd w.H p o a = some v
    rw [upd_ne fun q => pm (by rw [← q]; exact List.mem_of_getElem? h1)]
    exact e
theorem change_hid {K : PySem.W.Frag} {w : Wd} {st : Sto} (c : Corr K w st) {p : Addr} (o : HO) (hp : p ∈ w.xi) :
    let w' : Wd := ⟨upd w.H p o, w.mu, w.xi⟩
    w.Sub w' ∧ Corr K w' st := by
  have S : w.Sub ⟨upd w.H p o, w.mu, w.xi⟩ := ⟨fun a u h => by
    obtain ⟨h1, h2, h3⟩ := Wd.fr_some.mp h
    exact Wd.fr_some.mpr ⟨h1, h2, by
      show upd w.H p o a = some u
      rw [upd_ne fun e => h2 (by rw [e]; exact hp)]
      exact h3⟩, List.prefix_rfl⟩
  refine ⟨S, ⟨c.nd, c.len, c.apart, fun a ha => ?_, fun n a u h1 h2 => ?_⟩⟩
  · by_cases q : a = p
    · subst q
      exact ⟨o, upd_same⟩
    · obtain ⟨u, e⟩ := c.hid a ha
      refine ⟨u, ?_⟩
      show upd w.H p o a = some u
      rw [upd_ne q]
      exact e
  · obtain ⟨v, e, r⟩ := c.obj n a u h1 h2
    refine ⟨v, ?_, RelO.sub S r⟩
    show upd w.H p o a = some v
    rw [upd_ne fun q => c.apart a (List.mem_of_getElem? h1) (by rw [q]; exact hp)]
    exact e
theorem show_again {K : PySem.W.Frag} {H : Hp} {mu xi : List Addr} {p : Addr} {st : Sto} (c : Corr K ⟨H, mu, p :: xi⟩ st) : Wd.Sub ⟨H, mu, p :: xi⟩ ⟨H, mu, xi⟩ ∧ Corr K ⟨H, mu, xi⟩ st := by
  have S : Wd.Sub ⟨H, mu, p :: xi⟩ ⟨H, mu, xi⟩ := ⟨fun a u h => by
    obtain ⟨h1, h2, h3⟩ := Wd.fr_some.mp h
    exact Wd.fr_some.mpr ⟨h1, fun q => h2 (List.mem_cons_of_mem _ q), h3⟩, List.prefix_rfl⟩
  exact ⟨S, ⟨c.nd, c.len, fun a ha q => c.apart a ha (List.mem_cons_of_mem _ q), fun a ha => c.hid a (List.mem_cons_of_mem _ ha), fun n a o h1 h2 => by
    obtain ⟨v, e, r⟩ := c.obj n a o h1 h2
    exact ⟨v, e, RelO.sub S r⟩⟩⟩
theorem show_live {K : PySem.W.Frag} {H : Hp} {mu xi : List Addr} {p : Addr} {st : Sto} {so : SO} {u : HO} (c : Corr K ⟨H, mu, p :: xi⟩ st) (np : p ∉ xi) (hp : H p = some u) (r : RelO K ⟨H, mu, p :: xi⟩ so u) :
    Wd.Sub ⟨H, mu, p :: xi⟩ ⟨H, mu ++ [p], xi⟩ ∧ Corr K ⟨H, mu ++ [p], xi⟩ (st ++ [so]) := by
  have pm : p ∉ mu := fun h => c.apart p h List.mem_cons_self
  have hl : st.length = mu.length := c.len
  have S : Wd.Sub ⟨H, mu, p :: xi⟩ ⟨H, mu ++ [p], xi⟩ := ⟨fun a u h => by
    obtain ⟨h1, h2, h3⟩ := Wd.fr_some.mp h
    refine Wd.fr_some.mpr ⟨fun q => ?_, fun q => h2 (List.mem_cons_of_mem _ q), h3⟩
    rcases List.mem_append.mp q with q | q
    · exact h1 q
    · exact h2 (by rw [List.mem_singleton.mp q]; exact List.mem_cons_self), List.prefix_append _ _⟩
  refine ⟨S, ⟨?_, ?_, fun a ha => ?_, fun a ha => c.hid a (List.mem_cons_of_mem _ ha), fun n a o h1 h2 => ?_⟩⟩
  · show (mu ++ [p]).Nodup
    rw [List.nodup_append]
    refine ⟨c.nd, List.pairwise_singleton _ _, fun x hx y hy e => ?_⟩
    rw [List.mem_singleton.mp hy] at e
    exact pm (by rw [← e]; exact hx)
  · show (st ++ [so]).length = (mu ++ [p]).length
    rw [List.length_append, List.length_append, hl]
    rfl
  · rcases List.mem_append.mp ha with ha | ha
    · exact fun q => c.apart a ha (List.mem_cons_of_mem _ q)
    · rw [List.mem_singleton.mp ha]
      exact np
  · have h1' : (mu ++ [p])[n]? = some a := h1
    by_cases hn : n < mu.length
    · rw [List.getElem?_append_left hn] at h1'
      rw [List.getElem?_append_left (by omega)] at h2
      obtain ⟨v, e, r⟩ := c.obj n a o h1' h2
      exact ⟨v, e, RelO.sub S r⟩
    · have hn' : n = mu.length := by
        have := (List.getElem?_eq_some_iff.mp h1').1
        rw [List.length_append] at this
        simp only [List.length_cons, List.length_nil] at this
        omega
      subst hn'
      have e1 : p = a := by simpa using h1'
      subst e1
      have e2 : so = o := by
        rw [← hl] at h2
        simpa using h2
      subst e2
      exact ⟨u, hp, RelO.sub S r⟩
theorem Res.bind_assoc {α β γ : Type} (r : Res α) (f : α → Sto → Res β) (g : β → Sto → Res γ) : (r.bind f).bind g = r.bind fun a s => (f a s).bind g := by
  cases r <;> rfl
/-- no exception leaves a comprehension -/
def noX {α : Type} : Res α → Res α
  | .ok a st => .ok a st
  | _ => .bad
def compR (rd : Nat → Sto → Option (Option D)) (g : GD) (t : M Bool) (me : M D) (env : Env) : Nat → Nat → List D → Sto → Res (List D)
  | 0, i, acc, st => match rd i st with
    | some none => .ok acc st
    | _ => .bad
  | n + 1, i, acc, st => match rd i st with
    | some none => .ok acc st
    | some (some d) => (match g d env with
      | some e1 => (noX (t e1 st)).bind fun b s1 => if b = true then (noX (me e1 s1)).bind fun y s2 => if Ok (acc.length < sizeLine) then compR rd g t me env n (i + 1) (acc ++ [y]) s2 else .bad
        else compR rd g t me env n (i + 1) acc s1
      | none => .bad)
    | none => .bad
/-- a list comprehension: its own names' slots vs -/
def eComp (lv : Bool) (mi : M Src) (g : GD) (t : M Bool) (me : M D) (vs : List Nat) : M D := fun env st => (mi env st).bind fun S s1 => (compR S.rd g t me (wipeD env vs) S.n 0 [] s1).bind fun acc s2 => mkL lv acc s2
abbrev noW : WX := fun _ _ _ _ => False
theorem tG_noX {α ν : Type} {K : PySem.W.Frag} {R : Wd → α → ν → Prop} {R' : Wd → D → V → Prop} {w w1 : Wd} {σ σ1 : L2.St} {Wx : WX} {Q : VK} {env : Env} {st : Sto} {ma : M α} {k : α → Sto → Res D}
    (re : REnv K w env σ1) (c : Corr K w st) (h : Post K R' w1 σ Wx Q ((noX (ma env st)).bind k)) :
    tG K R noW ma σ1 w.H fun v H1 => ∃ mu xi a st1, w.Le ⟨H1, mu, xi⟩ ∧ R ⟨H1, mu, xi⟩ a v ∧ Corr K ⟨H1, mu, xi⟩ st1 ∧ REnv K ⟨H1, mu, xi⟩ env σ1 ∧ Post K R' w1 σ Wx Q (k a st1) := by
  refine ⟨w.mu, w.xi, env, st, re, c, ?_⟩
  cases e : ma env st with
  | ok a st1 =>
    rw [e] at h
    exact fun w' v l r c' => ⟨w'.mu, w'.xi, a, st1, l, r, c', re.le l, h⟩
  | exc k fs xs st1 =>
    rw [e] at h
    exact h.elim
  | bad =>
    rw [e] at h
    exact h
theorem lc_imp {lv : Bool} {own : List (Str × Nat)} {mi : M Src} {g : GD} {us : List Nat} {t : M Bool} {me : M D} (hus : ∀ i ∈ us, i ∈ own.map (·.2)) {σ : L2.St} {H : Hp} {Q : VK} (h : tE X.K Wx (eComp lv mi g t me (own.map (·.2))) σ H Q) :
    tLc (tG X.K (Wk X.K) Wx mi) (tGt X.K g us) (tT X.K noW t) (tE X.K noW me) (own.map (·.2)) σ H Q := by
  obtain ⟨mu, xi, env, st, re, c, h⟩ := h
  refine tG_mono (tG_bind (R := Wk X.K) re c h) fun J H1 ⟨mu1, xi1, S, st1, l1, wk, c1, re1, p1⟩ => ?_
  intro q hq
  obtain ⟨S1, c2⟩ := hide c1 (.lst []) hq
  have qx : q ∉ xi1 := fun h => by
    obtain ⟨u, e⟩ := c1.hid q h
    have e' : H1 q = some u := e
    rw [hq] at e'
    cases e'
  refine ⟨fun i k H => ∃ mu st acc av, Wd.Le ⟨H1, mu1, xi1⟩ ⟨H, mu, xi1⟩ ∧ Wd.Sub ⟨H1, mu1, xi1⟩ ⟨H, mu, q :: xi1⟩ ∧ Corr X.K ⟨H, mu, q :: xi1⟩ st ∧ H q = some (.lst av) ∧ Rels X.K ⟨H, mu, q :: xi1⟩ acc av ∧
    Post X.K (Rel X.K) ⟨H1, mu1, xi1⟩ σ Wx Q ((compR S.rd g t me (wipeD env (own.map (·.2))) k i acc st).bind fun acc s2 => mkL lv acc s2), ⟨S.n, mu1, st1, [], [], ?_, S1, c2, upd_same, .nil, p1⟩, ?_⟩
  · refine ⟨⟨fun a o h => ?_, List.prefix_rfl⟩, rfl, fun a ha => ?_⟩
    · obtain ⟨h1, h2, h3⟩ := Wd.fr_some.mp h
      refine Wd.fr_some.mpr ⟨h1, h2, ?_⟩
      show upd H1 q (.lst []) a = some o
      rw [upd_ne fun e => by
        have h3' : H1 a = some o := h3
        rw [e, hq] at h3'
        cases h3']
      exact h3
    · show upd H1 q (.lst []) a = H1 a
      exact upd_ne fun e => qx (by rw [← e]; exact ha)
  · rintro i k H ⟨mu, st, acc, av, l, S2, c, hD, ra, p⟩
    obtain ⟨S3, c3⟩ := show_again c
    obtain ⟨ws, wg⟩ := wk i ⟨H, mu, q :: xi1⟩ st S2 c
    have done : S.rd i st = some none → Post X.K (Rel X.K) ⟨H1, mu1, xi1⟩ σ Wx Q (mkL lv acc st) → J.stop i H ∧ Q (.ref q) H := fun er p => by
      refine ⟨ws er, ?_⟩
      cases lv with
      | false =>
        have p2 : Post X.K (Rel X.K) ⟨H1, mu1, xi1⟩ σ Wx Q (.ok (.lst acc) st) := p
        refine p2 ⟨H, mu, xi1⟩ (.ref q) l ?_ c3
        unfold Rel
        exact ⟨q, av, rfl, Wd.fr_some.mpr ⟨fun h => c.apart q h List.mem_cons_self, qx, hD⟩, Rels.sub S3 _ _ ra⟩
      | true =>
        have p2 : Post X.K (Rel X.K) ⟨H1, mu1, xi1⟩ σ Wx Q (.ok (.ref st.length) (st ++ [.lst acc])) := p
        obtain ⟨S4, c4⟩ := show_live c qx hD (so := .lst acc) ⟨av, rfl, ra⟩
        refine p2 ⟨H, mu ++ [q], xi1⟩ (.ref q) ⟨S2.trans S4, rfl, l.hid⟩ ?_ c4
        unfold Rel
        refine ⟨q, rfl, ?_⟩
        have hl : st.length = mu.length := c.len
        show (mu ++ [q])[st.length]? = some q
        rw [hl]
        simp
    cases er : S.rd i st with
    | none =>
      cases k with
      | zero =>
        unfold compR at p
        rw [er] at p
        exact p.elim
      | succ k =>
        unfold compR at p
        rw [er] at p
        exact p.elim
    | some od =>
      cases od with
      | none =>
        cases k with
        | zero =>
          unfold compR at p
          rw [er] at p
          exact .inl (done er p)
        | succ k =>
          unfold compR at p
          rw [er] at p
          exact .inl (done er p)
      | some d =>
        cases k with
        | zero =>
          unfold compR at p
          rw [er] at p
          exact p.elim
        | succ k =>
          unfold compR at p
          rw [er] at p
          obtain ⟨g1, g2⟩ := wg d er
          refine .inr ⟨g1, fun H => ∃ mu st acc av, Wd.Le ⟨H1, mu1, xi1⟩ ⟨H, mu, xi1⟩ ∧ Wd.Sub ⟨H1, mu1, xi1⟩ ⟨H, mu, q :: xi1⟩ ∧ Corr X.K ⟨H, mu, q :: xi1⟩ st ∧ H q = some (.lst av) ∧ Rels X.K ⟨H, mu, q :: xi1⟩ acc av ∧
            Post X.K (Rel X.K) ⟨H1, mu1, xi1⟩ σ Wx Q ((compR S.rd g t me (wipeD env (own.map (·.2))) k (i + 1) acc st).bind fun acc s2 => mkL lv acc s2), fun H' q => ⟨k, Nat.lt_succ_self k, q⟩, fun x H' y => ?_⟩
          obtain ⟨eh, r2⟩ := g2 x H' y
          obtain ⟨l2, c2⟩ := c.more eh
          have l3 : Wd.Le ⟨H, mu, xi1⟩ ⟨H', mu, xi1⟩ := (c3.more eh).1
          dsimp only at p
          cases eg : g d (wipeD env (own.map (·.2))) with
          | none =>
            rw [eg] at p
            exact p.elim
          | some e1 =>
            rw [eg] at p
            dsimp only at p
            have reW : REnv X.K ⟨H', mu, q :: xi1⟩ (wipeD env (own.map (·.2))) (L2.wipe σ (own.map (·.2))) := (re1.sub (S2.trans l2.sub)).wipe _
            refine ⟨mu, q :: xi1, _, st, d, e1, reW, c2, r2, eg, fun σ2 re2 kp => ⟨?_, ?_⟩⟩
            · have kw : L2.wipe σ2 (own.map (·.2)) = L2.wipe (L2.wipe σ (own.map (·.2))) (own.map (·.2)) := Keeps.wipe ⟨kp.1, fun j hj => kp.2 j fun z => hj (hus j z)⟩
              rw [kw]
              exact Keeps.wipe ⟨wipe_length _ _, fun j hj => wipe_out hj⟩
            · rw [Res.bind_assoc] at p
              refine tG_mono (tG_noX (R := RB) re2 c2 p) fun bv H3 ⟨mu3, xi3, b3, st3, l4, r4, c4, re4, p4⟩ => ?_
              cases r4
              have ex3 : xi3 = q :: xi1 := l4.xi
              subst ex3
              have hD3 : H3 q = some (.lst av) := (l4.hid q List.mem_cons_self).trans (eh q _ hD)
              have L3 : Wd.Le ⟨H1, mu1, xi1⟩ ⟨H3, mu3, xi1⟩ := by
                refine ⟨(S2.trans l2.sub).trans (l4.sub.trans (show_again c4).1), rfl, fun a ha => ?_⟩
                have h1 := l.hid a ha
                have h2 := l3.hid a ha
                have h3 := l4.hid a (List.mem_cons_of_mem _ ha)
                exact h3.trans (h2.trans h1)
              have S3' : Wd.Sub ⟨H1, mu1, xi1⟩ ⟨H3, mu3, q :: xi1⟩ := (S2.trans l2.sub).trans l4.sub
              cases bv with
              | false =>
                rw [if_neg Bool.false_ne_true] at p4 ⊢
                exact ⟨mu3, st3, acc, av, L3, S3', c4, hD3, (Rels.sub l2.sub _ _ ra).le l4, p4⟩
              | true =>
                rw [if_pos rfl] at p4 ⊢
                rw [Res.bind_assoc] at p4
                refine tG_mono (tG_noX (R := Rel X.K) re4 c4 p4) fun yv H4 ⟨mu4, xi4, y4, st4, l5, r5, c5, re5, p5⟩ => ?_
                have ex4 : xi4 = q :: xi1 := l5.xi
                subst ex4
                have hD4 : H4 q = some (.lst av) := (l5.hid q List.mem_cons_self).trans hD3
                by_cases hz : Ok (acc.length < sizeLine)
                · rw [if_pos hz] at p5
                  have ra4 : Rels X.K ⟨H4, mu4, q :: xi1⟩ acc av := ((Rels.sub l2.sub _ _ ra).le l4).le l5
                  obtain ⟨S6, c6⟩ := change_hid c5 (.lst (av ++ [yv])) (p := q) List.mem_cons_self
                  refine ⟨av, hD4, by rw [← ra.length]; exact hz, mu4, st4, acc ++ [y4], av ++ [yv], ⟨(S3'.trans l5.sub).trans (S6.trans (show_again c6).1), rfl, fun a ha => ?_⟩, (S3'.trans l5.sub).trans S6, c6, upd_same, Rels.sub S6 _ _ (ra4.append (.cons r5 .nil)), p5⟩
                  show upd H4 q (.lst (av ++ [yv])) a = H1 a
                  rw [upd_ne fun e => qx (by rw [← e]; exact ha)]
                  exact (l5.hid a (List.mem_cons_of_mem _ ha)).trans (L3.hid a ha)
                · rw [if_neg hz] at p5
                  exact p5.elim
theorem ce_lc {lv : Bool} {iter elt : Expr} {ifs : List Expr} {scope : Scope} {own : List (Str × Nat)} {mi : M Src} {g : GD} {us : List Nat} {t : M Bool} {me : M D} (vs : List Nat) (hc : X.calm = true) (hN : X.N.Nodup) (hi : CI X Wx tg iter mi) (ok : BlkOk X.N X.env.scope scope own)
    (hg : ∀ (s : Shared) (H : Hp) (C : Addr) (cl : List (Str × Addr)) (fp : List Addr), CG (X.blk s H scope (compEnvC scope cl C X.env) fp) tg g us)
    (ht : ∀ (s : Shared) (H : Hp) (C : Addr) (cl : List (Str × Addr)) (fp : List Addr), PTs (X.blk s H scope (compEnvC scope cl C X.env) fp) ifs (tT X.K noW t))
    (he : ∀ (s : Shared) (H : Hp) (C : Addr) (cl : List (Str × Addr)) (fp : List Addr), CE (X.blk s H scope (compEnvC scope cl C X.env) fp) noW elt me)
    (hvs : own.map (·.2) = vs := by rfl) (hus : ∀ i ∈ us, i ∈ vs := by decide) (hs : ∀ x, foldedSetIterable iter X.env x = pure x := by intro _; rfl) :
    CE X Wx (.ListComp elt [⟨tg, iter, ifs, 0⟩] scope pos) (eComp lv mi g t me vs) := by
  subst hvs
  exact PE.mono (pe_lc (g := tGt X.K g us) (tt := tT X.K noW t) (te := tE X.K noW me) hc hN hi ok hg ht he hs) fun σ H Q h => lc_imp hus h
/-- x = [..] on one line -/
theorem cs_setLc (i : Nat) {y : Str} {py spos : Pos} {lv : Bool} {iter elt : Expr} {ifs : List Expr} {scope : Scope} {own : List (Str × Nat)} {mi : M Src} {g : GD} {us : List Nat} {t : M Bool} {me : M D} (vs : List Nat) (hc : X.calm = true) (hN : X.N.Nodup) (hi : CI X Wx tg iter mi) (ok : BlkOk X.N X.env.scope scope own)
    (hg : ∀ (s : Shared) (H : Hp) (C : Addr) (cl : List (Str × Addr)) (fp : List Addr), CG (X.blk s H scope (compEnvC scope cl C X.env) fp) tg g us)
    (ht : ∀ (s : Shared) (H : Hp) (C : Addr) (cl : List (Str × Addr)) (fp : List Addr), PTs (X.blk s H scope (compEnvC scope cl C X.env) fp) ifs (tT X.K noW t))
    (he : ∀ (s : Shared) (H : Hp) (C : Addr) (cl : List (Str × Addr)) (fp : List Addr), CE (X.blk s H scope (compEnvC scope cl C X.env) fp) noW elt me)
    (hy : X.N[i]? = some y := by rfl) (hyl : X.env.scope.names.lookup y = some .local := by rfl) (hsw : swapsWith (.ListComp elt [⟨tg, iter, ifs, 0⟩] scope pos) (some (.Name y py)) spos.line X.env = pure true := by rfl)
    (hvs : own.map (·.2) = vs := by rfl) (hus : ∀ i ∈ us, i ∈ vs := by decide) (hs : ∀ x, foldedSetIterable iter X.env x = pure x := by intro _; rfl) :
    CS X Wx (.Assign [.Name y py] (.ListComp elt [⟨tg, iter, ifs, 0⟩] scope pos) spos) (sSet i (eComp lv mi g t me vs)) := by
  subst hvs
  refine PS.mono (ps_setLc (g := tGt X.K g us) (tt := tT X.K noW t) (te := tE X.K noW me) hc hN hy hyl hsw hi ok hg ht he hs) fun E σ H h => ?_
  obtain ⟨mu, xi, env, st, re, c, h⟩ := h
  exact lc_imp hus (tG_mono (tG_bindS (R := Rel X.K) re c h) fun v H1 ⟨mu1, xi1, d, st1, l1, r1, c1, re1, p1⟩ => p1 ⟨H1, mu1, xi1⟩ _ (.refl _) (re1.set i r1) c1)
end
end ND
end
noncomputable section
namespace ND
open PySem L2 PyProof.Rows
section
variable {X : Cx} {Wx : WX} {a b c e o tg : Expr} {es : List Expr} {ma mb mc me mo : M D} {ms : M (List D)} {pos p2 p apos cpos tpos : Pos}
/-! ### a comprehension's tests -/
def bYes : M Bool := fun _ st => .ok true st
theorem PTs.mono {ifs : List Expr} {t t' : TT} (h : PTs X ifs t) (i : ∀ σ H Q, t' σ H Q → t σ H Q) : PTs X ifs t' := ⟨fun pins s σ H Q I q => h.run pins s σ H Q I (i σ H Q q)⟩
theorem cts_nil : PTs X [] (tT X.K Wx bYes) := PTs.mono pts_nil fun σ H Q h => by
  obtain ⟨mu, xi, env, st, re, c, h⟩ := h
  exact h ⟨H, mu, xi⟩ true (.refl _) rfl c
theorem cts_one {t : M Bool} (h : CT X Wx a t) : PTs X [a] (tT X.K Wx t) := pts_one h

/-! ### methods of lists -/
abbrev BM : Type := D → List D → Sto → Res D
def eBM (g : BM) (mo : M D) (ms : M (List D)) : M D := fun env st => (mo env st).bind fun x s1 => match seqL s1 x with
  | some _ => (ms env s1).bind fun ds s2 => g x ds s2
  | none => .bad
theorem ce_bmL {g : BM} {name : Str} {id : String} {r : V → List V → Hp → VK → Prop} (slot : Slot "list" name id) (hty : typeOf (.builtin id) = pure (.type "method_descriptor")) (hm : MtR X id r)
    (sd : ∀ (w : Wd) (σ : L2.St) (st : Sto) (x : D) (ds : List D) (vx : V) (vs : List V) (Q : VK), Corr X.K w st → Rel X.K w x vx → Rels X.K w ds vs → Post X.K (Rel X.K) w σ Wx Q (g x ds st) → r vx vs w.H Q)
    (ho : CE X Wx o mo) (ha : CA X Wx (e :: es) ms) (hbase : attributeBase o name X.env (eval o X.env) = eval o X.env := by rfl)
    (hfew : ((backTo cpos (starEach (e :: es) X.env)).all (fun x => !x.1) && (backToKw cpos (keywordEach [] X.env)).all (fun x => x.1.isSome)
      && decide ((e :: es).length + ([] : List Keyword).length + (if ([] : List Keyword).isEmpty then 0 else 1) < 30)) = true := by rfl)
    (hline : (apos.endLine == cpos.line) = true := by rfl) (hs : starEach (e :: es) X.env = (false, eval e X.env) :: starEach es X.env := by rfl) (hplain : (backTo cpos (starEach es X.env)).any (·.1) = false := by rfl) :
    CE X Wx (.Call (.Attribute o name apos) (e :: es) [] cpos) (eBM g mo ms) := PE.mono (pe_bm PySem.F.plainAttrs_list slot hty hm ho ha hbase hfew hline hs hplain) fun σ H Q h => by
  obtain ⟨mu, xi, env, st, re, c, h⟩ := h
  refine tG_mono (tG_bind (R := Rel X.K) re c h) fun v H1 ⟨mu1, xi1, d, st1, l1, r1, c1, re1, p1⟩ => ?_
  cases es : seqL st1 d with
  | none =>
    rw [es] at p1
    exact p1.elim
  | some xs =>
    rw [es] at p1
    obtain ⟨a1, v1, ea, q1, s1⟩ := seqL_ok c1 r1 es
    subst ea
    refine ⟨.inl ⟨rfl, _, q1⟩, ?_⟩
    exact tG_mono (tG_bind (R := Rels X.K) re1 c1 p1) fun vs H2 ⟨mu2, xi2, ds, st2, l2, r2, c2, re2, p2⟩ => sd ⟨H2, mu2, xi2⟩ σ st2 d ds _ vs Q c2 (r1.le l2) r2 p2
theorem ce_bmL0 {g : BM} {name : Str} {id : String} {r : V → List V → Hp → VK → Prop} (slot : Slot "list" name id) (hty : typeOf (.builtin id) = pure (.type "method_descriptor")) (hm : MtR X id r)
    (sd : ∀ (w : Wd) (σ : L2.St) (st : Sto) (x : D) (ds : List D) (vx : V) (vs : List V) (Q : VK), Corr X.K w st → Rel X.K w x vx → Rels X.K w ds vs → Post X.K (Rel X.K) w σ Wx Q (g x ds st) → r vx vs w.H Q)
    (ho : CE X Wx o mo) (hbase : attributeBase o name X.env (eval o X.env) = eval o X.env := by rfl) (hline : (apos.endLine == cpos.line) = true := by rfl) :
    CE X Wx (.Call (.Attribute o name apos) [] [] cpos) (eBM g mo aNil) := PE.mono (pe_bm0 PySem.F.plainAttrs_list slot hty hm ho hbase hline) fun σ H Q h => by
  obtain ⟨mu, xi, env, st, re, c, h⟩ := h
  refine tG_mono (tG_bind (R := Rel X.K) re c h) fun v H1 ⟨mu1, xi1, d, st1, l1, r1, c1, re1, p1⟩ => ?_
  cases es : seqL st1 d with
  | none =>
    rw [es] at p1
    exact p1.elim
  | some xs =>
    rw [es] at p1
    obtain ⟨a1, v1, ea, q1, s1⟩ := seqL_ok c1 r1 es
    subst ea
    exact ⟨.inl ⟨rfl, _, q1⟩, sd ⟨H1, mu1, xi1⟩ σ st1 d [] _ [] Q c1 r1 .nil p1⟩
/-- a live list's items -/
def liveL (st : Sto) : D → Option (Nat × List D)
  | .ref n => match st[n]? with
    | some (.lst xs) => some (n, xs)
    | _ => none
  | _ => none
theorem liveL_ok {K : PySem.W.Frag} {w : Wd} {st : Sto} {d : D} {v : V} {n : Nat} {xs : List D} (c : Corr K w st) (r : Rel K w d v) (h : liveL st d = some (n, xs)) : ∃ a vs, v = .ref a ∧ w.H a = some (.lst vs) ∧ Rels K w xs vs ∧ w.mu[n]? = some a ∧ n < st.length := by
  cases d with
  | ref m =>
    unfold Rel at r
    obtain ⟨a, e, q⟩ := r
    have h2 : (match st[m]? with
      | some (.lst xs) => some (m, xs)
      | _ => none) = some (n, xs) := h
    split at h2
    · rename_i ys hy
      cases h2
      obtain ⟨u, hu, vs, e2, s⟩ := c.obj _ a _ q hy
      subst e2
      exact ⟨a, vs, e, hu, s, q, (List.getElem?_eq_some_iff.mp hy).1⟩
    · cases h2
  | _ => cases h
def setO (st : Sto) (n : Nat) (ys : List D) : Sto := st.set n (.lst ys)
theorem post_set {w : Wd} {σ : L2.St} {st : Sto} {n : Nat} {q : Addr} {ys : List D} {vs : List V} {d : D} {v : V} {Q : VK} (c : Corr X.K w st) (hn : w.mu[n]? = some q) (hl : n < st.length) (r : Rels X.K w ys vs) (rd : Rel X.K w d v) (h : Post X.K (Rel X.K) w σ Wx Q (.ok d (setO st n ys))) : Q v (upd w.H q (.lst vs)) := by
  obtain ⟨l, c'⟩ := c.set (o := .lst vs) (so := .lst ys) hn hl ⟨vs, rfl, r⟩
  exact h _ v l (rd.le l) c'
theorem rel_nonV {K : PySem.W.Frag} (w : Wd) : Rel K w .non .non := by unfold Rel; rfl
def appendD : BM := fun x ds st => match liveL st x, ds with
  | some (n, xs), [y] => if Ok (xs.length < sizeLine) then .ok .non (setO st n (xs ++ [y])) else .bad
  | _, _ => .bad
theorem ce_append (ho : CE X Wx o mo) (ha : CE X Wx a ma) (hbase : attributeBase o "append" X.env (eval o X.env) = eval o X.env := by rfl)
    (hfew : ((backTo cpos (starEach [a] X.env)).all (fun x => !x.1) && (backToKw cpos (keywordEach [] X.env)).all (fun x => x.1.isSome)
      && decide ([a].length + ([] : List Keyword).length + (if ([] : List Keyword).isEmpty then 0 else 1) < 30)) = true := by rfl)
    (hline : (apos.endLine == cpos.line) = true := by rfl) (hs : starEach [a] X.env = (false, eval a X.env) :: starEach [] X.env := by rfl) : CE X Wx (.Call (.Attribute o "append" apos) [a] [] cpos) (eBM appendD mo (aCons ma aNil)) :=
  ce_bmL PySem.F.slot_list_append PySem.F.type_list_append mt_append (fun w σ st x ds vx vs Q c rx rs h => by
    unfold appendD at h
    split at h
    · rename_i n xs y e1
      split at h
      · rename_i hz
        obtain ⟨q, us, eq, hq, s, hn, hl⟩ := liveL_ok c rx e1
        obtain ⟨u, eu, ru⟩ := rs.one
        exact ⟨q, us, u, eq, eu, hq, by rw [← s.length]; exact hz, post_set c hn hl (s.append (.cons ru .nil)) (rel_nonV w) h⟩
      · exact h.elim
    · exact h.elim) ho (ca_cons ha ca_nil hs) hbase hfew hline hs rfl
def extendD : BM := fun x ds st => match liveL st x, ds with
  | some (n, xs), [y] => (match y with
    | .ext _ => .bad
    | _ => match seqL st y with
      | some ys => if Ok (xs.length + ys.length ≤ sizeLine) then .ok .non (setO st n (xs ++ ys)) else .bad
      | none => .bad)
  | _, _ => .bad
theorem seqL_trk {K : PySem.W.Frag} {w : Wd} {st : Sto} {d : D} {v : V} {xs : List D} (c : Corr K w st) (r : Rel K w d v) (h : seqL st d = some xs) (hx : ∀ ns, d ≠ .ext ns) : ∃ a vs, v = .ref a ∧ w.H a = some (.lst vs) ∧ Rels K w xs vs := by
  cases d with
  | lst ys =>
    have e : ys = xs := Option.some.inj h
    subst e
    unfold Rel at r
    obtain ⟨a, vs, e, q, s⟩ := r
    exact ⟨a, vs, e, fr_here q, s⟩
  | ref n =>
    unfold Rel at r
    obtain ⟨a, e, q⟩ := r
    have h2 : (match st[n]? with
      | some (.lst xs) => some xs
      | _ => none) = some xs := h
    split at h2
    · rename_i ys hy
      have e2 : ys = xs := Option.some.inj h2
      subst e2
      obtain ⟨u, hu, vs, rfl, s⟩ := c.obj n a _ q hy
      exact ⟨a, vs, e, hu, s⟩
    · cases h2
  | ext ns => exact absurd rfl (hx ns)
  | _ => cases h
theorem ce_extend (ho : CE X Wx o mo) (ha : CE X Wx a ma) (hbase : attributeBase o "extend" X.env (eval o X.env) = eval o X.env := by rfl)
    (hfew : ((backTo cpos (starEach [a] X.env)).all (fun x => !x.1) && (backToKw cpos (keywordEach [] X.env)).all (fun x => x.1.isSome)
      && decide ([a].length + ([] : List Keyword).length + (if ([] : List Keyword).isEmpty then 0 else 1) < 30)) = true := by rfl)
    (hline : (apos.endLine == cpos.line) = true := by rfl) (hs : starEach [a] X.env = (false, eval a X.env) :: starEach [] X.env := by rfl) : CE X Wx (.Call (.Attribute o "extend" apos) [a] [] cpos) (eBM extendD mo (aCons ma aNil)) :=
  ce_bmL PySem.F.slot_list_extend PySem.F.type_list_extend mt_extend (fun w σ st x ds vx vs Q c rx rs h => by
    unfold extendD at h
    split at h
    · rename_i n xs y e1
      split at h
      · exact h.elim
      · rename_i hy
        split at h
        · rename_i ys e2
          split at h
          · rename_i hz
            obtain ⟨q, us, eq, hq, s, hn, hl⟩ := liveL_ok c rx e1
            obtain ⟨u, eu, ru⟩ := rs.one
            obtain ⟨q2, us2, eq2, hq2, s2⟩ := seqL_trk c ru e2 (fun ns e => hy ns e)
            subst eq2
            exact ⟨q, q2, us, us2, eq, eu, hq, hq2, by rw [← s.length, ← s2.length]; exact hz, post_set c hn hl (s.append s2) (rel_nonV w) h⟩
          · exact h.elim
        · exact h.elim
    · exact h.elim) ho (ca_cons ha ca_nil hs) hbase hfew hline hs rfl
def popD : BM := fun x ds st => match liveL st x, ds with
  | some (n, xs), [] => (match xs[xs.length - 1]? with
    | some y => .ok y (setO st n xs.dropLast)
    | none => .bad)
  | _, _ => .bad
theorem Rels.dropLast {K : PySem.W.Frag} {w : Wd} {d : List D} {v : List V} (r : Rels K w d v) : Rels K w d.dropLast v.dropLast := by
  rw [List.dropLast_eq_take, List.dropLast_eq_take, ← r.length]
  exact r.take _
theorem ce_pop (ho : CE X Wx o mo) (hbase : attributeBase o "pop" X.env (eval o X.env) = eval o X.env := by rfl) (hline : (apos.endLine == cpos.line) = true := by rfl) : CE X Wx (.Call (.Attribute o "pop" apos) [] [] cpos) (eBM popD mo aNil) :=
  ce_bmL0 PySem.F.slot_list_pop PySem.F.type_list_pop mt_pop (fun w σ st x ds vx vs Q c rx rs h => by
    unfold popD at h
    split at h
    · rename_i n xs e1
      split at h
      · rename_i y e2
        obtain ⟨q, us, eq, hq, s, hn, hl⟩ := liveL_ok c rx e1
        unfold Rels at rs
        obtain ⟨u, hu, ru⟩ := s.get e2
        exact ⟨q, us, u, eq, rs, hq, by rw [← s.length]; exact hu, post_set c hn hl s.dropLast ru h⟩
      · exact h.elim
    · exact h.elim) ho hbase hline
def reverseD : BM := fun x ds st => match liveL st x, ds with
  | some (n, xs), [] => .ok .non (setO st n xs.reverse)
  | _, _ => .bad
theorem ce_reverse (ho : CE X Wx o mo) (hbase : attributeBase o "reverse" X.env (eval o X.env) = eval o X.env := by rfl) (hline : (apos.endLine == cpos.line) = true := by rfl) : CE X Wx (.Call (.Attribute o "reverse" apos) [] [] cpos) (eBM reverseD mo aNil) :=
  ce_bmL0 PySem.F.slot_list_reverse PySem.F.type_list_reverse mt_reverse (fun w σ st x ds vx vs Q c rx rs h => by
    unfold reverseD at h
    split at h
    · rename_i n xs e1
      obtain ⟨q, us, eq, hq, s, hn, hl⟩ := liveL_ok c rx e1
      unfold Rels at rs
      exact ⟨q, us, eq, rs, hq, post_set c hn hl s.reverse (rel_nonV w) h⟩
    · exact h.elim) ho hbase hline
def clearD : BM := fun x ds st => match liveL st x, ds with
  | some (n, _), [] => .ok .non (setO st n [])
  | _, _ => .bad
theorem ce_clear (ho : CE X Wx o mo) (hbase : attributeBase o "clear" X.env (eval o X.env) = eval o X.env := by rfl) (hline : (apos.endLine == cpos.line) = true := by rfl) : CE X Wx (.Call (.Attribute o "clear" apos) [] [] cpos) (eBM clearD mo aNil) :=
  ce_bmL0 PySem.F.slot_list_clear PySem.F.type_list_clear mt_clear (fun w σ st x ds vx vs Q c rx rs h => by
    unfold clearD at h
    split at h
    · rename_i n xs e1
      obtain ⟨q, us, eq, hq, s, hn, hl⟩ := liveL_ok c rx e1
      unfold Rels at rs
      exact ⟨q, us, eq, rs, hq, post_set c hn hl .nil (rel_nonV w) h⟩
    · exact h.elim) ho hbase hline

/-! ### making; a class of the module called -/
theorem ce_make {lv : Nat} {k : String} {kn : Str} {F : DF} {live : Bool} (G : MkD X.prog X.w X.K X.mg X.base lv k F) (hr : Room (lv + 1) X.A) (tk : Takes X Wx) (ha : CA X Wx (e :: es) ms) (en : kn = Str.ofString k := by rfl) (hg : Gl X kn := by rfl) (hdb : (kn == ("__debug__" : Str)) = false := by decide)
    (he : starEach (e :: es) X.env = (false, eval e X.env) :: starEach es X.env := by rfl) (hpl : (backTo pos (starEach es X.env)).any (·.1) = false := by rfl) : CE X Wx (.Call (.Name kn p) (e :: es) [] pos) (eC (mkI k F live) ms) := by
  subst en
  refine ⟨fun pins s σ H Q I h => ?_⟩
  obtain ⟨mu, xi, env, st, re, c, h⟩ := h
  obtain ⟨f, mk, G'⟩ := id G.ex
  refine wpAny_Call_Name_kw (ld_glob I hg G.glo ?_ hdb)
  refine PySem.W.callWith_K (h₀ := X.base) I.ok.mod.kin mk.kp (thn (ha.run pos pins s σ H _ I (tG_bind (R := Rels X.K) re c h)) fun us s1 ⟨vs, H1, I1, rv, mu1, xi1, d, st1, l1, r1, c1, re1, p1⟩ => ⟨I1.kIn, ?_⟩) he hpl
  exact mk_callD G hr tk pins s1 σ ⟨H1, mu1, xi1⟩ st1 d vs us Q I1 c1 r1 rv p1
theorem ce_make0 {lv : Nat} {k : String} {kn : Str} {F : DF} {live : Bool} (G : MkD X.prog X.w X.K X.mg X.base lv k F) (hr : Room (lv + 1) X.A) (tk : Takes X Wx) (en : kn = Str.ofString k := by rfl) (hg : Gl X kn := by rfl) (hdb : (kn == ("__debug__" : Str)) = false := by decide) : CE X Wx (.Call (.Name kn p) [] [] pos) (eC0 (mkI k F live)) := by
  subst en
  refine ⟨fun pins s σ H Q I h => ?_⟩
  obtain ⟨mu, xi, env, st, re, c, h⟩ := h
  obtain ⟨f, mk, G'⟩ := id G.ex
  refine wpAny_Call_Name_kw (ld_glob I hg G.glo ?_ hdb)
  exact PySem.W.callWith_K0 I.kIn mk.kp (mk_callD G hr tk pins s σ ⟨H, mu, xi⟩ st [] [] [] Q I c .nil .nil h)

/-! ### stars -/
def aStar (m : M D) (ms : M (List D)) : M (List D) := fun env st => (m env st).bind fun d s1 => match seqX s1 d with
  | some xs => (ms env s1).bind fun ds s2 => .ok (xs ++ ds) s2
  | none => .bad
theorem ca_star {ep : Pos} (ha : CE X Wx e me) (hr : CA X Wx es ms) (hs : starEach (.Starred e ep :: es) X.env = (true, eval e X.env) :: starEach es X.env := by rfl) : CA X Wx (.Starred e ep :: es) (aStar me ms) := PA.mono (StX.pa_star ha hr hs) fun σ H Q h => by
  obtain ⟨mu, xi, env, st, re, c, h⟩ := h
  refine tG_mono (tG_bind (R := Rel X.K) re c h) fun v H1 ⟨mu1, xi1, d, st1, l1, r1, c1, re1, p1⟩ => ?_
  cases es : seqX st1 d with
  | none =>
    rw [es] at p1
    exact p1.elim
  | some xs =>
    rw [es] at p1
    obtain ⟨a1, v1, ea, q1, s1⟩ := seqX_ok c1 r1 es
    refine ⟨a1, v1, ea, q1.symm, ?_⟩
    exact tG_mono (tG_bind (R := Rels X.K) re1 c1 p1) fun vs H2 ⟨mu2, xi2, ds, st2, l2, r2, c2, re2, p2⟩ => p2 ⟨H2, mu2, xi2⟩ _ (.refl _) ((s1.le l2).append r2) c2
/-- f(*y) -/
def eStar1 (F : DF) (m : M D) : M D := fun env st => (m env st).bind fun d s1 => match seqX s1 d with
  | some xs => F xs s1
  | none => .bad
theorem ce_callS1 {lv : Nat} {x : Str} {F : DF} {ep : Pos} (G : FnG X.prog X.w X.K X.mg X.base lv x F) (hr : Room lv X.A) (tk : Takes X Wx) (he : CE X Wx e me) (hg : Gl X x := by rfl) (hdb : (x == ("__debug__" : Str)) = false := by decide)
    (hst : starEach [.Starred e ep] X.env = [(true, eval e X.env)] := by rfl) : CE X Wx (.Call (.Name x p) [.Starred e ep] [] pos) (eStar1 F me) := by
  refine ⟨fun pins s σ H Q I h => ?_⟩
  obtain ⟨mu, xi, env, st, re, c, h⟩ := h
  obtain ⟨f, hm, G⟩ := G.ex
  refine wpAny_Call_Name_kw (ld_glob I hg hm ?_ hdb)
  refine PySem.W.callWith_S (h₀ := X.base) I.ok.mod.kin G.kp (thn (he.run pins s σ H _ I (tG_bind (R := Rel X.K) re c h)) fun v s1 ⟨y, H1, I1, ry, mu1, xi1, d, st1, l1, r1, c1, re1, p1⟩ => ?_) hst
  cases es : seqX st1 d with
  | none =>
    rw [es] at p1
    exact p1.elim
  | some xs =>
    rw [es] at p1
    obtain ⟨a1, v1, ea, q1, s1'⟩ := seqX_ok c1 r1 es
    subst ea
    obtain rfl : v = Value.ref a1 := ry
    exact StX.star_any I1 q1.symm fun us s2 I2 rv => ⟨I2.kIn, G.run (w := ⟨H1, mu1, xi1⟩) hr tk I2 c1 s1' rv p1⟩
end
/-- def f(*v) -/
noncomputable def fnStar (N : Nat) (lv : Bool) (body : MS) : DF := fun ds st => if Ok (ds.length ≤ sizeLine) then fnEnd lv st (body (some (.tup ds) :: List.replicate (N - 1) none) st) else .bad
theorem fnd_star {P : Program} {w : World} {K : PySem.W.Frag} {mg : Str → Option Value} {base : Heap} {k : Nat} {x qual : Str} {params : Arguments} {body : List Stmt} {scope : Scope} {f : Addr} {fd : FuncData} {N : List Str} {pv : Str} {lv : Bool} {m : MS}
    (F : FunD K x qual params body scope [] [] f fd) (S : FnScope N [pv] scope)
    (hb : ∀ (kV doc pm : Value) (an : Option Addr) (cdv ct : Value) (rest : List Value), bindArgs (PySem.W.fnOf x qual params body scope .none kV doc pm an cdv ct) ⟨rest, []⟩ = (newTuple rest >>= fun t => pure [(pv, t)]))
    (hbody : ∀ (cdv : Value) (A : Around) (outer : List PySem.Env) (s : Shared) (H : Hp) (E : XK), Room k (A.deeper (envOfC qual scope s.heap.objs.size f cdv)) → Takes (cxOf (L2.CX P w) P w K mg base N qual scope f cdv A outer s H E) (WXe E) →
      PassesOwn (model P w) (A.deeper (envOfC qual scope s.heap.objs.size f cdv)) (envOfC qual scope s.heap.objs.size f cdv) (cxOf (L2.CX P w) P w K mg base N qual scope f cdv A outer s H E).xe →
      CSs (cxOf (L2.CX P w) P w K mg base N qual scope f cdv A outer s H E) (WXe E) body m) : FnD P w K mg base (k + 1) f (fnStar N.length lv m) := by
  refine ⟨?_, F.kp⟩
  obtain ⟨oc, od, dV, kV, doc, pm, an, cdv, ct, osl, rfl, lk, hcd, hD, hK⟩ := F.ex
  rcases hD with ⟨_, rfl⟩ | ⟨e, _⟩
  · have h := StX.fn_star (P := P) (w := w) (mg := mg) (base := base) (k := k) (CX := L2.CX P w) (ps := []) (pv := pv) (N := N) (sp := fun vs H Q E => ∃ (p : Addr) (rest : List V) (H0 : Hp) (mu xi : List Addr) (ds : List D) (st : Sto), vs = [.ref p] ∧ H0 p = none ∧ H = upd H0 p (.tup rest) ∧
        Rels K ⟨H0, mu, xi⟩ ds rest ∧ Corr K ⟨H0, mu, xi⟩ st ∧ ds.length ≤ sizeLine ∧ Post K (Rel K) ⟨H0, mu, xi⟩ [] (fun c d _ H' => E c d H') Q (fnEnd lv st (m (some (.tup ds) :: List.replicate (N.length - 1) none) st))) lk hcd S StX.cxUp (fun us rest hu => by
      cases us with
      | nil => exact hb kV doc pm an cdv ct rest
      | cons _ _ => cases hu) (fun A outer s H vs Q E hr h => by
      obtain ⟨p, rest, H0, mu, xi, ds, st, rfl, hp, rfl, r, c, hz, h⟩ := h
      have tk : Takes (cxOf (L2.CX P w) P w K mg base N qual scope f cdv A outer s (upd H0 p (.tup rest)) E) (WXe E) := takes_of (X := cxOf (L2.CX P w) P w K mg base N qual scope f cdv A outer s (upd H0 p (.tup rest)) E) rfl rfl rfl rfl
      have hp2 : PassesOwn (model P w) (A.deeper (envOfC qual scope s.heap.objs.size f cdv)) (envOfC qual scope s.heap.objs.size f cdv) (cxOf (L2.CX P w) P w K mg base N qual scope f cdv A outer s (upd H0 p (.tup rest)) E).xe := passes_of (X := cxOf (L2.CX P w) P w K mg base N qual scope f cdv A outer s (upd H0 p (.tup rest)) E) rfl
      obtain ⟨l, c2, e2⟩ := c.new (.tup rest) hp
      refine ⟨_, hbody cdv A outer s _ E hr tk hp2, mu, xi, _, st, ?_, c2, fnEnd_ok c2 (h.le l)⟩
      have rr : Rels K ⟨upd H0 p (.tup rest), mu, xi⟩ [.tup ds] [.ref p] := .cons (by unfold Rel; exact ⟨p, rest, rfl, e2, r.le l⟩) .nil
      exact REnv.start rr)
    intro A outer s H us vs Q E hr e0 rv hsp
    obtain ⟨mu, xi, ds, st, r, c, h2⟩ := hsp
    unfold fnStar at h2
    split at h2
    · rename_i hz
      refine h A outer s H us vs Q E hr e0 rv ⟨[], vs, rfl, rfl, by rw [← r.length]; exact hz, fun p hp => ⟨p, vs, H, mu, xi, ds, st, rfl, hp, rfl, r, c, hz, h2⟩⟩
    · exact h2.elim
  · exact absurd rfl e
end ND
end
namespace ND
open PySem L2 PyProof.Rows PySem.W
section
variable {prog : Program} {w : World} {M : Model} {A : Around} {E : Value → Shared → Prop} {s : Shared} {K : Frag} {x y C L f : Addr} {ox : Obj} {od : Option Obj} {nm T : String}
/-- a op b, both of one own class -/
theorem own_same {op : Operator} {oy : Obj} {od2 : Option Obj} {Q : Value → Shared → Prop} (X : K.In s.heap) (I : InstAt s.heap x ox C od) (I2 : InstAt s.heap y oy C od2) (hc : selfFirst K C = true)
    (hs : findIn K (.ref C) (PySem.dunder op.info.2) = some (some (.ref f))) (hf : isFn K (.ref f) = true)
    (h : wpAny (model prog w) A (call (.ref f) [.ref x, .ref y]) (PySem.W.CmpBack Q) E s) : wpAny (model prog w) A (binaryOp op (.ref x) (.ref y)) Q E s := by
  obtain ⟨cd, rest, hcd, hm⟩ := ksp_first hc
  rcases hi : op.info with ⟨sym, nm'⟩
  rw [hi] at hs
  dsimp only at hs
  have one := ksp_try X I hs hf h
  obtain ⟨hh, g, d, tt, os⟩ := s
  have L1 : Looks (model prog w) hh (typeOf (.ref x)) (.ref C) := I.type
  have L2 : Looks (model prog w) hh (typeOf (.ref y)) (.ref C) := I2.type
  have L3 : Looks (model prog w) hh (fillsNumberSlot (.ref C) nm') true := fills_K X hcd hm hs
  simp only [binaryOp, hi]
  refine wpAny_holding (wpAny_bind ?_)
  unfold binaryOp1
  refine wpAny_bind (L1.at (wpAny_bind (L2.at (wpAny_bind (L3.at ?_)))))
  simp only [beq_self_eq_true, if_true]
  ksp_lk
  refine wpAny_mono one (fun r s' hr' => ?_) fun _ _ e => e
  obtain ⟨v, rfl, hq⟩ := hr'
  ksp_lk
  exact hq
end
/-! ### by data -/
abbrev dnd (op : Operator) : Str := PySem.dunder op.info.2
structure BinD (P : Program) (w : World) (K : PySem.W.Frag) (mg : Str → Option Value) (base : Heap) (lv : Nat) (k : String) (op : Operator) (F : DF) : Prop where
  cl : Cls K (gaS K k)
  first : selfFirst K (gaS K k) = true
  ex : ∃ f, findIn K (.ref (gaS K k)) (dnd op) = some (some (.ref f)) ∧ isFn K (.ref f) = true ∧ FnD P w K mg base lv f F
/-- the operators of own classes, by the class -/
abbrev BT : Type := List (String × DF)
def bfind : BT → String → Option DF
  | [], _ => none
  | (k', F) :: r, k => if k' = k then some F else bfind r k
def BtOk (X : Cx) (op : Operator) (bt : BT) : Prop := ∀ k F, bfind bt k = some F → ∃ lv, Room lv X.A ∧ BinD X.prog X.w X.K X.mg X.base lv k op F
theorem BtOk.nil {X : Cx} {op : Operator} : BtOk X op [] := fun k F h => by cases h
theorem BtOk.cons {X : Cx} {op : Operator} {lv : Nat} {k : String} {F : DF} {bt : BT} (hr : Room lv X.A) (h : BinD X.prog X.w X.K X.mg X.base lv k op F) (t : BtOk X op bt) : BtOk X op ((k, F) :: bt) := fun k' F' h' => by
  unfold bfind at h'
  split at h'
  · rename_i e
    cases h'
    rw [← e]
    exact ⟨lv, hr, h⟩
  · exact t k' F' h'
/-- a def's values are never NotImplemented -/
theorem relV_back {v : V} {u : Value} (r : L2.RelV v u) {Q : Value → Shared → Prop} {s : Shared} (q : Q u s) : PySem.W.CmpBack Q u s := by
  cases v with
  | non => cases r; exact q
  | bl b => cases r; exact q
  | int i => obtain ⟨t, rfl⟩ := r; exact q
  | str i => obtain ⟨t, rfl⟩ := r; exact q
  | byt i => obtain ⟨t, rfl⟩ := r; exact q
  | flt i => obtain ⟨t, rfl⟩ := r; exact q
  | ref a => cases r; exact q
  | ty n => cases r; exact q
theorem ep_back {X : Cx} {pins : List (Addr × Obj)} {σ : L2.St} {Q : VK} {u : Value} {s : Shared} (h : EP X pins σ Q u s) : PySem.W.CmpBack (EP X pins σ Q) u s := by
  obtain ⟨v, H', I, r, q⟩ := h
  exact relV_back r ⟨v, H', I, r, q⟩
theorem inst_of {X : Cx} {pins : List (Addr × Obj)} {σ : L2.St} {H : Hp} {s : Shared} {a C dx : Addr} {fs : List (Str × V)} (I : Inv X pins σ H s) (h : H a = some (.ins C dx fs)) : ∃ od, InstAt s.heap a (instObj C dx) C (some od) := by
  obtain ⟨mA, O, _⟩ := ins_get I.hok h
  obtain ⟨od, J, _⟩ := O.look
  exact ⟨od, J⟩
section
variable {X : Cx} {Wx : WX}
/-- both of one own class -/
def bothD (bt : BT) : D2 := fun x y st => match insD st x, insD st y with
  | some (k, _, _), some (k', _, _) => if k = k' then (match bfind bt k with
    | some F => F [x, y] st
    | none => .bad) else .bad
  | _, _ => .bad
theorem o_both {op : Operator} {bt : BT} (hb : BtOk X op bt) (tk : Takes X Wx) : OpD X Wx (binaryOp op) (bothD bt) := by
  intro pins s σ w st x y vx vy v u Q I c rx ry rv ru h
  unfold bothD at h
  split at h
  · rename_i k f1 x1 k' f2 x2 e1 e2
    split at h
    · rename_i ek
      subst ek
      split at h
      · rename_i F eF
        obtain ⟨a1, dx1, gs1, ea1, q1, _, _⟩ := insD_ok c rx e1
        obtain ⟨a2, dx2, gs2, ea2, q2, _, _⟩ := insD_ok c ry e2
        subst ea1 ea2
        cases rv
        cases ru
        obtain ⟨lv, hr, B⟩ := hb k F eF
        obtain ⟨f, hs, hf, G⟩ := B.ex
        obtain ⟨od1, J1⟩ := inst_of I q1
        obtain ⟨od2, J2⟩ := inst_of I q2
        refine own_same I.kIn J1 J2 B.first hs hf ?_
        exact wpAny_mono (G.run (w := w) (ds := [x, y]) (vs := [.ref a1, .ref a2]) (us := [.ref a1, .ref a2]) hr tk I c (.cons rx (.cons ry .nil)) (.cons rfl (.cons rfl .nil)) h) (fun r s' q => ep_back q) fun _ _ e => e
      · exact h.elim
    · exact h.elim
  · exact h.elim
end
end ND
noncomputable section
namespace ND
open PySem L2 PyProof.Rows PySem.W
section
variable {X : Cx} {Wx : WX} {a b c e o : Expr} {es : List Expr} {ma mb mc me mo : M D} {ms : M (List D)} {pos : Pos}
/-! ### isinstance -/
/-- a type: (false, n) the built-in n, (true, k) the own class k -/
abbrev TK : Type := Bool × String
def tkV (K : Frag) : TK → Value
  | (false, n) => .type n
  | (true, k) => .ref (gaS K k)
def tyD (st : Sto) : D → Option TK
  | .non => some (false, "NoneType")
  | .bl _ => some (false, "bool")
  | .int _ => some (false, "int")
  | .str _ => some (false, "str")
  | .tup _ => some (false, "tuple")
  | .lst _ => some (false, "list")
  | .dK _ _ => some (false, "dict")
  | .dT _ _ => some (false, "dict")
  | .ins k _ _ => some (true, k)
  | .ref n => match st[n]? with
    | some (.lst _) => some (false, "list")
    | some (.dK _ _) => some (false, "dict")
    | some (.dT _ _) => some (false, "dict")
    | some (.ins k _ _) => some (true, k)
    | none => none
  | _ => none
/-- what isinstance asks of an own class -/
structure TyC (K : Frag) (k : String) : Prop where
  cl : Cls K (gaS K k)
  ha : findIn K (.ref (gaS K k)) "__class__" = some (some (.builtin "object.__class__"))
  hn : specialIn K (.builtin "object.__class__") "__get__" = some (some (.builtin "getset_descriptor.__get__"))
  ht : takesIn K (.builtin "object.__class__") = some true
  hm : mroIn K (gaS K k) (.type "object") = some true
theorem tyD_ok {w : Wd} {st : Sto} {d : D} {v : V} {t : TK} {cs : List String} (hcs : ∀ k ∈ cs, TyC X.K k) (c : Corr X.K w st) (r : Rel X.K w d v) (h : tyD st d = some t) (ht : t.1 = true → t.2 ∈ cs) : TyX X.K w.H v (tkV X.K t) := by
  have own : ∀ {a dx : Addr} {k : String} {gs : List (Str × V)}, k ∈ cs → w.H a = some (.ins (gaS X.K k) dx gs) → TyX X.K w.H (.ref a) (.ref (gaS X.K k)) := fun hk e =>
    .base (.ins e (hcs _ hk).cl (hcs _ hk).ha (hcs _ hk).hn (hcs _ hk).ht (hcs _ hk).hm)
  cases d with
  | non => cases h; unfold Rel at r; subst r; exact .base .non
  | bl b => cases h; unfold Rel at r; subst r; exact .base (.bl _)
  | int b => cases h; unfold Rel at r; subst r; exact .base (.int _)
  | str b => cases h; unfold Rel at r; subst r; exact .base (.str _)
  | tup xs =>
    cases h
    unfold Rel at r
    obtain ⟨a, vs, rfl, q, _⟩ := r
    exact .base (.tup (fr_here q))
  | lst xs =>
    cases h
    unfold Rel at r
    obtain ⟨a, vs, rfl, q, _⟩ := r
    exact .base (.lst (fr_here q))
  | dK ks xs =>
    cases h
    unfold Rel at r
    obtain ⟨a, vs, rfl, q, _⟩ := r
    exact .base (.dK (fr_here q))
  | dT ks xs =>
    cases h
    unfold Rel at r
    obtain ⟨a, vs, rfl, q, _⟩ := r
    exact .base (.dT (fr_here q))
  | ins k fs xs =>
    cases h
    unfold Rel at r
    obtain ⟨a, dx, gs, rfl, q, _⟩ := r
    exact own (ht rfl) (fr_here q)
  | ref n =>
    unfold Rel at r
    obtain ⟨a, rfl, q⟩ := r
    have h2 : (match st[n]? with
      | some (.lst _) => some (false, "list")
      | some (.dK _ _) => some (false, "dict")
      | some (.dT _ _) => some (false, "dict")
      | some (.ins k _ _) => some (true, k)
      | none => none) = some t := h
    split at h2
    · rename_i hx
      cases h2
      obtain ⟨u, hu, vs, rfl, _⟩ := c.obj n a _ q hx
      exact .base (.lst hu)
    · rename_i hx
      cases h2
      obtain ⟨u, hu, vs, rfl, _⟩ := c.obj n a _ q hx
      exact .base (.dK hu)
    · rename_i hx
      cases h2
      obtain ⟨u, hu, vs, rfl, _⟩ := c.obj n a _ q hx
      exact .base (.dT hu)
    · rename_i hx
      cases h2
      obtain ⟨u, hu, dx, gs, rfl, _⟩ := c.obj n a _ q hx
      exact own (ht rfl) hu
    · cases h2
  | _ => cases h
def clD : D → Option TK
  | .ty n => some (false, n)
  | .glo x => some (true, x)
  | _ => none
/-- the answers of isinstance that a law asks for -/
abbrev IT : Type := List (TK × TK × Bool)
def ifind : IT → TK → TK → Option Bool
  | [], _, _ => none
  | (t', u', b) :: r, t, u => if t' = t ∧ u' = u then some b else ifind r t u
def ItOk (K : Frag) (it : IT) : Prop := ∀ q ∈ it, kitOne K (tkV K q.1) (tkV K q.2.1) = some q.2.2
theorem ItOk.nil {K : Frag} : ItOk K [] := fun q h => by cases h
theorem ItOk.cons {K : Frag} {q : TK × TK × Bool} {it : IT} (h : kitOne K (tkV K q.1) (tkV K q.2.1) = some q.2.2) (t : ItOk K it) : ItOk K (q :: it) := fun p hp => by
  rcases List.mem_cons.mp hp with e | hp
  · rw [e]
    exact h
  · exact t p hp
theorem ifind_ok {K : Frag} : ∀ {it : IT} {t u : TK} {b : Bool}, ItOk K it → ifind it t u = some b → kitOne K (tkV K t) (tkV K u) = some b
  | [], _, _, _, _, h => by cases h
  | (t', u', b') :: r, t, u, b, ok, h => by
    unfold ifind at h
    split at h
    · rename_i e
      cases h
      rw [← e.1, ← e.2]
      exact ok _ List.mem_cons_self
    · exact ifind_ok (fun q hq => ok q (List.mem_cons_of_mem _ hq)) h
def isiD (cs : List String) (it : IT) : DF := fun ds st => match ds with
  | [x, c] => (match tyD st x, clD c with
    | some t, some u => if t.1 = true → t.2 ∈ cs then (match ifind it t u with
      | some b => .ok (.bl b) st
      | none => .bad) else .bad
    | _, _ => .bad)
  | _ => .bad
theorem c_isi {cs : List String} {it : IT} (hcs : ∀ k ∈ cs, TyC X.K k) (hit : ItOk X.K it) : CallD X Wx (.builtin "isinstance") (isiD cs it) := calld_of call_isi fun w σ st ds vs Q c r h => by
  unfold isiD at h
  split at h
  · rename_i x k
    split at h
    · rename_i t u e1 e2
      split at h
      · rename_i ht
        split at h
        · rename_i b e3
          obtain ⟨v, y, rfl, rx, rk⟩ := r.two
          refine ⟨v, y, tkV X.K t, tkV X.K u, b, rfl, ?_, tyD_ok hcs c rx e1 ht, ifind_ok hit e3, h w (.bl b) (.refl _) (rel_bl w b) c⟩
          cases k with
          | ty n =>
            cases e2
            unfold Rel at rk
            subst rk
            exact .ty n
          | glo n =>
            cases e2
            unfold Rel at rk
            subst rk
            exact .own _
          | _ => cases e2
        · exact h.elim
      · exact h.elim
    · exact h.elim
  · exact h.elim

/-! ### max, min of a list of ints -/
def maxL : List Int → Int
  | [] => 0
  | x :: xs => xs.foldl maxI x
def minL : List Int → Int
  | [] => 0
  | x :: xs => xs.foldl minI x
theorem foldl_max : ∀ (xs : List Int) (x : Int), (xs.foldl maxI x = x ∨ xs.foldl maxI x ∈ xs) ∧ x ≤ xs.foldl maxI x ∧ ∀ y ∈ xs, y ≤ xs.foldl maxI x
  | [], x => ⟨.inl rfl, Int.le_refl _, fun y h => by cases h⟩
  | z :: zs, x => by
    obtain ⟨h1, h2, h3⟩ := foldl_max zs (maxI x z)
    have h4 : x ≤ maxI x z ∧ z ≤ maxI x z ∧ (maxI x z = x ∨ maxI x z = z) := by unfold maxI; split <;> omega
    show (zs.foldl maxI (maxI x z) = x ∨ zs.foldl maxI (maxI x z) ∈ z :: zs) ∧ x ≤ zs.foldl maxI (maxI x z) ∧ ∀ y ∈ z :: zs, y ≤ zs.foldl maxI (maxI x z)
    refine ⟨?_, by omega, fun y hy => ?_⟩
    · rcases h1 with h1 | h1
      · rcases h4.2.2 with e | e
        · exact .inl (h1.trans e)
        · exact .inr (by rw [h1, e]; exact List.mem_cons_self)
      · exact .inr (List.mem_cons_of_mem _ h1)
    · rcases List.mem_cons.mp hy with e | hy
      · rw [e]; omega
      · exact h3 y hy
theorem foldl_min : ∀ (xs : List Int) (x : Int), (xs.foldl minI x = x ∨ xs.foldl minI x ∈ xs) ∧ xs.foldl minI x ≤ x ∧ ∀ y ∈ xs, xs.foldl minI x ≤ y
  | [], x => ⟨.inl rfl, Int.le_refl _, fun y h => by cases h⟩
  | z :: zs, x => by
    obtain ⟨h1, h2, h3⟩ := foldl_min zs (minI x z)
    have h4 : minI x z ≤ x ∧ minI x z ≤ z ∧ (minI x z = x ∨ minI x z = z) := by unfold minI; split <;> omega
    show (zs.foldl minI (minI x z) = x ∨ zs.foldl minI (minI x z) ∈ z :: zs) ∧ zs.foldl minI (minI x z) ≤ x ∧ ∀ y ∈ z :: zs, zs.foldl minI (minI x z) ≤ y
    refine ⟨?_, by omega, fun y hy => ?_⟩
    · rcases h1 with h1 | h1
      · rcases h4.2.2 with e | e
        · exact .inl (h1.trans e)
        · exact .inr (by rw [h1, e]; exact List.mem_cons_self)
      · exact .inr (List.mem_cons_of_mem _ h1)
    · rcases List.mem_cons.mp hy with e | hy
      · rw [e]; omega
      · exact h3 y hy
theorem maxL_is {ns : List Int} {m : Int} (h : m ∈ ns) (hm : ∀ y ∈ ns, y ≤ m) : m = maxL ns := by
  cases ns with
  | nil => cases h
  | cons x xs =>
    obtain ⟨h1, h2, h3⟩ := foldl_max xs x
    show m = xs.foldl maxI x
    have a1 : m ≤ xs.foldl maxI x := by
      rcases List.mem_cons.mp h with e | h
      · rw [e]; exact h2
      · exact h3 m h
    have a2 : xs.foldl maxI x ≤ m := by
      rcases h1 with e | e
      · rw [e]; exact hm x List.mem_cons_self
      · exact hm _ (List.mem_cons_of_mem _ e)
    omega
theorem minL_is {ns : List Int} {m : Int} (h : m ∈ ns) (hm : ∀ y ∈ ns, m ≤ y) : m = minL ns := by
  cases ns with
  | nil => cases h
  | cons x xs =>
    obtain ⟨h1, h2, h3⟩ := foldl_min xs x
    show m = xs.foldl minI x
    have a1 : xs.foldl minI x ≤ m := by
      rcases List.mem_cons.mp h with e | h
      · rw [e]; exact h2
      · exact h3 m h
    have a2 : m ≤ xs.foldl minI x := by
      rcases h1 with e | e
      · rw [e]; exact hm x List.mem_cons_self
      · exact hm _ (List.mem_cons_of_mem _ e)
    omega
def intsD (g : List Int → Int) : DF := fun ds st => match ds with
  | [x] => (match seqL st x with
    | some xs => (match allInts xs with
      | some (n :: ns) => .ok (.int (g (n :: ns))) st
      | _ => .bad)
    | none => .bad)
  | _ => .bad
theorem intsD_ok {g : List Int → Int} {w : Wd} {σ : L2.St} {st : Sto} {ds : List D} {vs : List V} {Q : VK} (c : Corr X.K w st) (r : Rels X.K w ds vs) (h : Post X.K (Rel X.K) w σ Wx Q (intsD g ds st)) : ∃ a ns, vs = [V.ref a] ∧ SqL X.K w.H a (ns.map V.int) ∧ 0 < ns.length ∧ Q (.int (g ns)) w.H := by
  unfold intsD at h
  split at h
  · rename_i x
    split at h
    · rename_i xs e1
      split at h
      · rename_i n ns e2
        obtain ⟨v, rfl, rx⟩ := r.one
        obtain ⟨a, us, rfl, q, s⟩ := seqL_ok c rx e1
        rw [allInts_ok e2] at s
        rw [s.ints] at q
        exact ⟨a, n :: ns, rfl, q, Nat.zero_lt_succ _, h w _ (.refl _) (rel_int w _) c⟩
      · exact h.elim
    · exact h.elim
  · exact h.elim
theorem c_maxL (hc : X.calm = true) : CallD X Wx (.builtin "max") (intsD maxL) := calld_of (cr_max hc) fun w σ st ds vs Q c r h => by
  obtain ⟨a, ns, e, q, hl, z⟩ := intsD_ok c r h
  exact ⟨a, ns, e, q, hl, fun m h1 h2 => by rw [maxL_is h1 h2]; exact z⟩
theorem c_minL (hc : X.calm = true) : CallD X Wx (.builtin "min") (intsD minL) := calld_of (cr_min hc) fun w σ st ds vs Q c r h => by
  obtain ⟨a, ns, e, q, hl, z⟩ := intsD_ok c r h
  exact ⟨a, ns, e, q, hl, fun m h1 h2 => by rw [minL_is h1 h2]; exact z⟩

/-! ### a list times an int -/
theorem Rels.flat {K : Frag} {w : Wd} {xs : List D} {vs : List V} (r : Rels K w xs vs) : ∀ n : Nat, Rels K w (List.replicate n xs).flatten (List.replicate n vs).flatten
  | 0 => .nil
  | n + 1 => by
    rw [List.replicate_succ, List.replicate_succ, List.flatten_cons, List.flatten_cons]
    exact r.append (Rels.flat r n)
def mulL (lv : Bool) : D2 := fun x y st => match x, y with
  | .ext _, _ => .bad
  | x, .int k => (match seqL st x with
    | some xs => if Ok (k < 2 ^ 63 ∧ -(2 ^ 63) ≤ k ∧ xs.length * k.toNat ≤ sizeLine) then mkL lv (List.replicate k.toNat xs).flatten st else .bad
    | none => .bad)
  | _, _ => .bad
theorem o_mulL {lv : Bool} : OpD X Wx (binaryOp .Mult) (mulL lv) := opd_of op_rep fun w σ st x y vx vy Q c rx ry h => by
  unfold mulL at h
  split at h
  · exact h.elim
  · rename_i x' k hne
    split at h
    · rename_i xs e1
      split at h
      · rename_i hk
        unfold Rel at ry
        subst ry
        obtain ⟨a, vs, rfl, q, s⟩ := seqL_trk c rx e1 (fun ns e => hne ns (by rw [e]))
        refine ⟨a, k, vs, rfl, rfl, q, hk.2.1, hk.1, by rw [← s.length]; exact hk.2.2, fun p hp => ?_⟩
        exact post_newL c (s.flat _) h p hp
      · exact h.elim
    · exact h.elim
  · exact h.elim

/-! ### x is True -/
def isB (neg : Bool) : D2
  | .bl x, .bl y, st => .ok (.bl (if neg then !decide (x = y) else decide (x = y))) st
  | _, _, _ => .bad
theorem o_isB : OpD X Wx (compareOp .Is) (isB false) := opd_of op_is_bl fun w σ st x y vx vy Q c rx ry h => by
  unfold isB at h
  split at h
  · unfold Rel at rx ry
    exact ⟨_, _, rx, ry, h w _ (.refl _) (rel_bl w _) c⟩
  · exact h.elim
theorem o_isnotB : OpD X Wx (compareOp .IsNot) (isB true) := opd_of op_isnot_bl fun w σ st x y vx vy Q c rx ry h => by
  unfold isB at h
  split at h
  · unfold Rel at rx ry
    exact ⟨_, _, rx, ry, h w _ (.refl _) (rel_bl w _) c⟩
  · exact h.elim
end
end ND
end
noncomputable section
namespace ND
open PySem L2 PyProof.Rows PySem.W
section
variable {X : Cx} {Wx : WX} {a b c e o : Expr} {es rs : List Expr} {ma mb mc me mo : M D} {ms : M (List D)} {pos : Pos} {op op' : CmpOp} {ops : List CmpOp}
/-! ### chains -/
/-- what follows the left value of a chain -/
abbrev MC : Type := D → M D
structure CCh (X : Cx) (Wx : WX) (ops : List CmpOp) (rs : List Expr) (m : MC) : Prop where
  val : ∀ (pos : Pos) (pins : List (Addr × Obj)) (s : Shared) (σ : L2.St) (w : Wd) (st : Sto) (env : ND.Env) (d : D) (v : V) (u : Value) (Q : VK), Inv X pins σ w.H s → REnv X.K w env σ → Corr X.K w st → Rel X.K w d v → RelV v u →
    Post X.K (Rel X.K) w σ Wx Q (m d env st) → wpAny (model X.prog X.w) X.A (compareChain pos u ops (evalEach rs X.env)) (EP X pins σ Q) X.xe s
  tst : ∀ (pos : Pos) (pins : List (Addr × Obj)) (s : Shared) (σ : L2.St) (w : Wd) (st : Sto) (env : ND.Env) (d : D) (v : V) (u : Value) (Q : Bool → Hp → Prop), Inv X pins σ w.H s → REnv X.K w env σ → Corr X.K w st → Rel X.K w d v → RelV v u →
    Post X.K RB w σ Wx Q (toB (m d) env st) → wpAny (model X.prog X.w) X.A (testChain pos u ops (evalEach rs X.env)) (fun k s' => ∃ H', Inv X pins σ H' s' ∧ Q k H') X.xe s
/-- a result that is a bool -/
theorem toB_post {w : Wd} {σ : L2.St} {Q : Bool → Hp → Prop} {r : Res D} (h : Post X.K RB w σ Wx Q (r.bind fun d s1 => match d with
    | .bl b => .ok b s1
    | _ => .bad)) : Post X.K (Rel X.K) w σ Wx (fun z H => ∃ k, z = .bl k ∧ Q k H) r := by
  cases r with
  | ok d st =>
    cases d with
    | bl b =>
      intro w' v l r c
      unfold Rel at r
      exact ⟨b, r, h w' b l rfl c⟩
    | _ => exact h.elim
  | exc k fs xs st => exact h
  | bad => exact h
theorem cch_last {g : D2} (ho : OpD X Wx (compareOp op) g) (hb : CE X Wx b mb) : CCh X Wx [op] [b] (fun d env st => (mb env st).bind fun y s1 => g d y s1) := by
  have V : ∀ (pins : List (Addr × Obj)) (s : Shared) (σ : L2.St) (w : Wd) (st : Sto) (env : ND.Env) (d : D) (v : V) (u : Value) (Q : VK), Inv X pins σ w.H s → REnv X.K w env σ → Corr X.K w st → Rel X.K w d v → RelV v u →
      Post X.K (Rel X.K) w σ Wx Q ((mb env st).bind fun y s1 => g d y s1) → wpAny (model X.prog X.w) X.A (eval b X.env) (fun z s₁ => wpAny (model X.prog X.w) X.A (compareOp op u z) (EP X pins σ Q) X.xe s₁) X.xe s := by
    intro pins s σ w st env d v u Q I re c rd rv h
    refine thn (hb.run pins s σ w.H _ I (tG_bind (R := Rel X.K) re c h)) fun z s1 ⟨y, H1, I1, ry, mu1, xi1, d1, st1, l1, r1, c1, re1, p1⟩ => ?_
    exact ho pins s1 σ ⟨H1, mu1, xi1⟩ st1 d d1 v y u z Q I1 c1 (rd.le l1) r1 rv ry p1
  refine ⟨fun pos pins s σ w st env d v u Q I re c rd rv h => chain_last (V pins s σ w st env d v u Q I re c rd rv h), fun pos pins s σ w st env d v u Q I re c rd rv h => test_last ?_⟩
  refine thn (V pins s σ w st env d v u (fun z H => ∃ k, z = .bl k ∧ Q k H) I re c rd rv (toB_post h)) fun z s1 q1 => thn q1 fun cc s2 ⟨y, H2, I2, r2, k, e, q2⟩ => ?_
  subst e
  cases r2
  exact wpAny_truthy_bool ⟨H2, I2, q2⟩
/-- a op b, then on with b -/
def chL (g : D2) (mb : M D) (m : MC) : MC := fun d env st => (mb env st).bind fun y s1 => (g d y s1).bind fun r s2 => match r with
  | .bl true => m y env s2
  | .bl false => .ok (.bl false) s2
  | _ => .bad
theorem cch_link {g : D2} {m : MC} (ho : OpD X Wx (compareOp op) g) (hb : CE X Wx b mb) (hr : CCh X Wx (op' :: ops) (c :: rs) m) : CCh X Wx (op :: op' :: ops) (b :: c :: rs) (chL g mb m) := by
  constructor
  · intro pos pins s σ w st env d v u Q I re c0 rd rv h
    refine chain_link (thn (hb.run pins s σ w.H _ I (tG_bind (R := Rel X.K) re c0 h)) fun z s1 ⟨y, H1, I1, ry, mu1, xi1, d1, st1, l1, r1, c1, re1, p1⟩ => ?_)
    have p2 : Post X.K (Rel X.K) ⟨H1, mu1, xi1⟩ σ Wx (fun t H2 => ∃ mu2 xi2 k st2, (⟨H1, mu1, xi1⟩ : Wd).Le ⟨H2, mu2, xi2⟩ ∧ t = .bl k ∧ Corr X.K ⟨H2, mu2, xi2⟩ st2 ∧ Post X.K (Rel X.K) ⟨H2, mu2, xi2⟩ σ Wx Q (if k = true then m d1 env st2 else .ok (.bl false) st2)) (g d d1 st1) := by
      cases eg : g d d1 st1 with
      | ok t st2 =>
        rw [eg] at p1
        cases t with
        | bl k =>
          intro w' v' l r c2
          unfold Rel at r
          refine ⟨w'.mu, w'.xi, k, st2, l, r, c2, ?_⟩
          cases k with
          | true => exact Post.le p1 l
          | false => exact Post.le p1 l
        | _ => exact p1.elim
      | exc k fs xs st2 =>
        rw [eg] at p1
        exact p1
      | bad =>
        rw [eg] at p1
        exact p1
    refine thn (ho pins s1 σ ⟨H1, mu1, xi1⟩ st1 d d1 v y u z _ I1 c1 (rd.le l1) r1 rv ry p2) fun t s2 ⟨t', H2, I2, rt, mu2, xi2, k, st2, l2, et, c2, q2⟩ => ?_
    subst et
    cases rt
    refine wpAny_truthy_bool ?_
    cases k with
    | true => exact ite_tt (hr.val pos pins s2 σ ⟨H2, mu2, xi2⟩ st2 env d1 y z Q I2 (re1.le l2) c2 (r1.le l2) ry q2)
    | false => exact ite_ff ⟨.bl false, H2, I2, rfl, q2 ⟨H2, mu2, xi2⟩ (.bl false) (.refl _) (rel_bl _ _) c2⟩
  · intro pos pins s σ w st env d v u Q I re c0 rd rv h
    have h' : Post X.K RB w σ Wx Q ((mb env st).bind fun y s1 => toB (fun env st => (g d y st).bind fun r s2 => match r with
        | .bl true => m y env s2
        | .bl false => .ok (.bl false) s2
        | _ => .bad) env s1) := by
      have e : toB (chL g mb m d) env st = (mb env st).bind fun y s1 => toB (fun env st => (g d y st).bind fun r s2 => match r with
        | .bl true => m y env s2
        | .bl false => .ok (.bl false) s2
        | _ => .bad) env s1 := Res.bind_assoc _ _ _
      rw [← e]
      exact h
    refine test_link (thn (hb.run pins s σ w.H _ I (tG_bind (R := Rel X.K) re c0 h')) fun z s1 ⟨y, H1, I1, ry, mu1, xi1, d1, st1, l1, r1, c1, re1, p1⟩ => ?_)
    have p2 : Post X.K (Rel X.K) ⟨H1, mu1, xi1⟩ σ Wx (fun t H2 => ∃ mu2 xi2 k st2, (⟨H1, mu1, xi1⟩ : Wd).Le ⟨H2, mu2, xi2⟩ ∧ t = .bl k ∧ Corr X.K ⟨H2, mu2, xi2⟩ st2 ∧ Post X.K RB ⟨H2, mu2, xi2⟩ σ Wx Q (if k = true then toB (m d1) env st2 else .ok false st2)) (g d d1 st1) := by
      have p1' : Post X.K RB ⟨H1, mu1, xi1⟩ σ Wx Q (((g d d1 st1).bind fun r s2 => match r with
        | .bl true => m d1 env s2
        | .bl false => .ok (.bl false) s2
        | _ => .bad).bind fun d s1 => match d with
        | .bl b => .ok b s1
        | _ => .bad) := p1
      replace p1 := p1'
      cases eg : g d d1 st1 with
      | ok t st2 =>
        rw [eg] at p1
        cases t with
        | bl k =>
          intro w' v' l r c2
          unfold Rel at r
          refine ⟨w'.mu, w'.xi, k, st2, l, r, c2, ?_⟩
          cases k with
          | true => exact Post.le p1 l
          | false => exact Post.le p1 l
        | _ => exact p1.elim
      | exc k fs xs st2 =>
        rw [eg] at p1
        exact p1
      | bad =>
        rw [eg] at p1
        exact p1
    refine thn (ho pins s1 σ ⟨H1, mu1, xi1⟩ st1 d d1 v y u z _ I1 c1 (rd.le l1) r1 rv ry p2) fun t s2 ⟨t', H2, I2, rt, mu2, xi2, k, st2, l2, et, c2, q2⟩ => ?_
    subst et
    cases rt
    refine wpAny_truthy_bool ?_
    cases k with
    | true => exact ite_tt (hr.tst pos pins s2 σ ⟨H2, mu2, xi2⟩ st2 env d1 y z Q I2 (re1.le l2) c2 (r1.le l2) ry q2)
    | false => exact ite_ff ⟨H2, I2, q2 ⟨H2, mu2, xi2⟩ false (.refl _) rfl c2⟩
def eCh (ma : M D) (m : MC) : M D := fun env st => (ma env st).bind fun x s1 => m x env s1
theorem ce_chain {m : MC} (ha : CE X Wx a ma) (hr : CCh X Wx (op :: op' :: ops) (b :: c :: rs) m) (hm : lastMarks (op :: op' :: ops) (b :: c :: rs) = false := by with_unfolding_all rfl) : CE X Wx (.Compare a (op :: op' :: ops) (b :: c :: rs) pos) (eCh ma m) := by
  refine ⟨fun pins s σ H Q I h => ?_⟩
  obtain ⟨mu, xi, env, st, re, c0, h⟩ := h
  exact Compare_chain (thn (ha.run pins s σ H _ I (tG_bind (R := Rel X.K) re c0 h)) fun u s1 ⟨v, H1, I1, rv, mu1, xi1, d1, st1, l1, r1, c1, re1, p1⟩ => hr.val pos pins s1 σ ⟨H1, mu1, xi1⟩ st1 env d1 v u Q I1 re1 c1 r1 rv p1) hm
theorem ct_chain {m : MC} (ha : CE X Wx a ma) (hr : CCh X Wx (op :: op' :: ops) (b :: c :: rs) m) (hm : lastMarks (op :: op' :: ops) (b :: c :: rs) = false := by with_unfolding_all rfl) : CT X Wx (.Compare a (op :: op' :: ops) (b :: c :: rs) pos) (toB (eCh ma m)) := by
  refine ⟨fun pins s σ H Q I h => ?_⟩
  obtain ⟨mu, xi, env, st, re, c0, h⟩ := h
  have h' : Post X.K RB ⟨H, mu, xi⟩ σ Wx Q ((ma env st).bind fun x s1 => toB (m x) env s1) := by
    have e : toB (eCh ma m) env st = (ma env st).bind fun x s1 => toB (m x) env s1 := Res.bind_assoc _ _ _
    rw [← e]
    exact h
  exact isTrue_chain (thn (ha.run pins s σ H _ I (tG_bind (R := Rel X.K) re c0 h')) fun u s1 ⟨v, H1, I1, rv, mu1, xi1, d1, st1, l1, r1, c1, re1, p1⟩ => hr.tst pos pins s1 σ ⟨H1, mu1, xi1⟩ st1 env d1 v u Q I1 re1 c1 r1 rv p1) hm

/-! ### own special methods -/
structure SpcD (P : Program) (w : World) (K : Frag) (mg : Str → Option Value) (base : Heap) (lv : Nat) (k m : String) (F : DF) : Prop where
  cl : Cls K (gaS K k)
  ex : ∃ f, findIn K (.ref (gaS K k)) (Str.ofString m) = some (some (.ref f)) ∧ isFn K (.ref f) = true ∧ FnD P w K mg base lv f F
def StOk (X : Cx) (m : String) (bt : BT) : Prop := ∀ k F, bfind bt k = some F → ∃ lv, Room lv X.A ∧ SpcD X.prog X.w X.K X.mg X.base lv k m F
theorem StOk.nil {X : Cx} {m : String} : StOk X m [] := fun k F h => by cases h
theorem StOk.cons {X : Cx} {m : String} {lv : Nat} {k : String} {F : DF} {bt : BT} (hr : Room lv X.A) (h : SpcD X.prog X.w X.K X.mg X.base lv k m F) (t : StOk X m bt) : StOk X m ((k, F) :: bt) := fun k' F' h' => by
  unfold bfind at h'
  split at h'
  · rename_i e
    cases h'
    rw [← e]
    exact ⟨lv, hr, h⟩
  · exact t k' F' h'
/-- x in y, y an instance -/
def inD (neg : Bool) (bt : BT) : D2 := fun x y st => match insD st y with
  | some (k, _, _) => (match bfind bt k with
    | some F => (F [y, x] st).bind fun r s1 => match truD s1 r with
      | some b => .ok (.bl (if neg then !b else b)) s1
      | none => .bad
    | none => .bad)
  | none => .bad
theorem in_own {M : Model} {A : Around} {E : Value → Shared → Prop} {s : Shared} {K : Frag} {x C f : Addr} {ox : Obj} {od : Option Obj} {v : Value} {Q : Bool → Shared → Prop} (Y : K.In s.heap) (I : InstAt s.heap x ox C od)
    (hs : findIn K (.ref C) "__contains__" = some (some (.ref f))) (hf : isFn K (.ref f) = true) (h : wpAny M A (call (.ref f) [.ref x, v]) (fun r s' => wpAny M A (truthy r) Q E s') E s) : wpAny M A (contains (.ref x) v) Q E s := by
  unfold contains
  refine wpAny_holding (wpAny_bind (wpAny_bind (I.type.here ((looks_findIn Y hs).here ?_))))
  rw [if_neg (by simp)]
  exact wpAny_bind (unlessNone_K Y I hs hf h)
theorem o_inG {neg : Bool} {bt : BT} (hb : StOk X "__contains__" bt) (tk : Takes X Wx) {pins : List (Addr × Obj)} {s : Shared} {σ : L2.St} {w : Wd} {st : Sto} {x y : D} {vx vy : V} {v u : Value} {Q : VK} (I : Inv X pins σ w.H s) (c : Corr X.K w st) (rx : Rel X.K w x vx) (ry : Rel X.K w y vy) (rv : RelV vx v) (ru : RelV vy u)
    (h : Post X.K (Rel X.K) w σ Wx Q (inD neg bt x y st)) : wpAny (model X.prog X.w) X.A (contains u v) (fun b s' => EP X pins σ Q (.bool (if neg then !b else b)) s') X.xe s := by
  unfold inD at h
  split at h
  · rename_i k f1 x1 e1
    split at h
    · rename_i F eF
      obtain ⟨a1, dx1, gs1, ea1, q1, _, _⟩ := insD_ok c ry e1
      subst ea1
      cases ru
      obtain ⟨lv, hr, B⟩ := hb k F eF
      obtain ⟨f, hs, hf, G⟩ := B.ex
      obtain ⟨od1, J1⟩ := inst_of I q1
      refine in_own I.kIn J1 hs hf ?_
      have p : Post X.K (Rel X.K) w σ Wx (fun r H2 => ∃ b, TruV X.K r H2 b ∧ Q (.bl (if neg then !b else b)) H2) (F [y, x] st) := by
        cases eF2 : F [y, x] st with
        | ok d st' =>
          rw [eF2] at h
          intro w' v' l r c'
          have h2 : Post X.K (Rel X.K) w σ Wx Q (match truD st' d with
            | some b => .ok (.bl (if neg then !b else b)) st'
            | none => .bad) := h
          split at h2
          · rename_i b eb
            exact ⟨b, truD_ok c' r eb, h2 w' _ l (rel_bl _ _) c'⟩
          · exact h2.elim
        | exc k fs xs st' =>
          rw [eF2] at h
          exact h
        | bad =>
          rw [eF2] at h
          exact h
      refine wpAny_mono (G.run (w := w) (ds := [y, x]) (vs := [.ref a1, vx]) (us := [.ref a1, v]) hr tk I c (.cons ry (.cons rx .nil)) (.cons rfl (.cons rv .nil)) p) (fun r s' q => ?_) fun _ _ e => e
      obtain ⟨r', H2, I2, rr, b, tb, q2⟩ := q
      refine wpAny_mono (tru_ok pins s' σ H2 r' r (fun k H3 => Q (.bl (if neg then !k else k)) H3) I2 rr ⟨b, tb, q2⟩) (fun k s3 ⟨H3, I3, q3⟩ => ?_) fun _ _ e => e
      exact ⟨.bl (if neg then !k else k), H3, I3, rfl, q3⟩
    · exact h.elim
  · exact h.elim
theorem o_in {bt : BT} (hb : StOk X "__contains__" bt) (tk : Takes X Wx) : OpD X Wx (compareOp .In) (inD false bt) := by
  intro pins s σ w st x y vx vy v u Q I c rx ry rv ru h
  exact wpAny_bind (wpAny_mono (o_inG hb tk I c rx ry rv ru h) (fun b s' q => wpAny_pure q) fun _ _ e => e)
theorem o_notin {bt : BT} (hb : StOk X "__contains__" bt) (tk : Takes X Wx) : OpD X Wx (compareOp .NotIn) (inD true bt) := by
  intro pins s σ w st x y vx vy v u Q I c rx ry rv ru h
  exact wpAny_bind (wpAny_mono (o_inG hb tk I c rx ry rv ru h) (fun b s' q => wpAny_pure q) fun _ _ e => e)
end
end ND
end
noncomputable section
namespace ND
open PySem L2 PyProof.Rows PySem.W
/-! ### dicts -/
section
variable {κ : Type} [DecidableEq κ]
def dval : List κ → List D → κ → Option D
  | k :: ks, x :: xs, j => if k = j then some x else dval ks xs j
  | _, _, _ => none
def dputs : List κ → List D → κ → D → List D
  | k :: ks, x :: xs, j, y => if k = j then y :: xs else x :: dputs ks xs j y
  | _, _, _, y => [y]
def dkeys : List κ → κ → List κ
  | k :: ks, j => if k = j then k :: ks else k :: dkeys ks j
  | [], j => [j]
theorem dval_ok {K : Frag} {w : Wd} : ∀ {ks : List κ} {xs : List D} {kvs : List (κ × V)} {j : κ}, kvs.map (·.1) = ks → Rels K w xs (kvs.map (·.2)) →
    match dval ks xs j with
    | some d => ∃ v, valV kvs j = some v ∧ Rel K w d v
    | none => valV kvs j = none
  | _, _, [], j, e, r => by
    subst e
    have : dval (List.map (fun x : κ × V => x.1) []) ‹List D› j = none := by unfold dval; rfl
    rw [this]
    rfl
  | _, [], p :: kvs, j, e, r => by
    have := r.length
    simp at this
  | _, x :: xs, p :: kvs, j, e, r => by
    subst e
    rw [List.map_cons] at r
    obtain ⟨v, rr, e3, q, s⟩ := r.inv
    injection e3 with e3 e4
    subst e3 e4
    show match dval (p.1 :: kvs.map (·.1)) (x :: xs) j with | some d => _ | none => _
    unfold dval
    by_cases hk : p.1 = j
    · rw [if_pos hk]
      exact ⟨p.2, valV_pos hk, q⟩
    · rw [if_neg hk, valV_neg hk]
      exact dval_ok rfl s
theorem putK_map {kvs : List (κ × V)} (nd : (kvs.map (·.1)).Nodup) (j : κ) (v : V) : (putK kvs j v).map (·.1) = dkeys (kvs.map (·.1)) j ∧ ∀ {K : Frag} {w : Wd} {xs : List D} {d : D}, Rels K w xs (kvs.map (·.2)) → Rel K w d v → Rels K w (dputs (kvs.map (·.1)) xs j d) ((putK kvs j v).map (·.2)) := by
  induction kvs with
  | nil =>
    refine ⟨rfl, fun {K w xs d} r rd => ?_⟩
    cases xs with
    | nil => exact .cons rd .nil
    | cons x xs =>
      have := r.length
      simp at this
  | cons p kvs ih =>
    rw [List.map_cons, List.nodup_cons] at nd
    obtain ⟨ih1, ih2⟩ := ih nd.2
    by_cases hk : p.1 = j
    · have e1 : putK (p :: kvs) j v = (p.1, v) :: kvs := by
        unfold putK
        rw [List.any_cons, decide_eq_true hk, Bool.true_or, if_pos rfl, List.map_cons, if_pos hk]
        congr 1
        have : kvs.map (fun kv => if kv.1 = j then (kv.1, v) else kv) = kvs.map id := List.map_congr_left fun kv hkv => by
          have : kv.1 ≠ j := fun e => nd.1 (by rw [hk, ← e]; exact List.mem_map.mpr ⟨kv, hkv, rfl⟩)
          rw [if_neg this]
          rfl
        rw [this, List.map_id]
      rw [e1]
      refine ⟨?_, fun {K w xs d} r rd => ?_⟩
      · show p.1 :: kvs.map (·.1) = dkeys (p.1 :: kvs.map (·.1)) j
        unfold dkeys
        rw [if_pos hk]
      · cases xs with
        | nil =>
          have := r.length
          simp at this
        | cons x xs =>
          rw [List.map_cons] at r
          obtain ⟨v', rr, e3, q, s⟩ := r.inv
          injection e3 with e3 e4
          subst e3 e4
          show Rels K w (dputs (p.1 :: kvs.map (·.1)) (x :: xs) j d) (v :: kvs.map (·.2))
          unfold dputs
          rw [if_pos hk]
          exact .cons rd s
    · have e1 : putK (p :: kvs) j v = p :: putK kvs j v := by
        unfold putK
        rw [List.any_cons, decide_eq_false hk, Bool.false_or, List.map_cons, if_neg hk]
        split <;> rfl
      rw [e1]
      refine ⟨?_, fun {K w xs d} r rd => ?_⟩
      · show p.1 :: (putK kvs j v).map (·.1) = dkeys (p.1 :: kvs.map (·.1)) j
        unfold dkeys
        rw [if_neg hk, ih1]
      · cases xs with
        | nil =>
          have := r.length
          simp at this
        | cons x xs =>
          rw [List.map_cons] at r
          obtain ⟨v', rr, e3, q, s⟩ := r.inv
          injection e3 with e3 e4
          subst e3 e4
          show Rels K w (dputs (p.1 :: kvs.map (·.1)) (x :: xs) j d) (p.2 :: (putK kvs j v).map (·.2))
          unfold dputs
          rw [if_neg hk]
          exact .cons q (ih2 s rd)
end
def keyD : D → Option Key
  | .int i => some (.inl i)
  | .str s => some (.inr s)
  | _ => none
def keysOf : List D → Option (List Key)
  | [] => some []
  | d :: ds => match keyD d, keysOf ds with
    | some k, some ks => some (k :: ks)
    | _, _ => none
theorem keyD_ok {K : Frag} {w : Wd} {d : D} {v : V} {k : Key} (r : Rel K w d v) (h : keyD d = some k) : v = kV k := by
  cases d with
  | int i => cases h; unfold Rel at r; exact r
  | str i => cases h; unfold Rel at r; exact r
  | _ => cases h
theorem keysOf_ok {K : Frag} {w : Wd} : ∀ {ds : List D} {vs : List V} {ks : List Key}, Rels K w ds vs → keysOf ds = some ks → vs = ks.map kV
  | [], vs, ks, r, h => by
    cases h
    unfold Rels at r
    exact r
  | d :: ds, vs, ks, r, h => by
    obtain ⟨v, rr, rfl, q, s⟩ := r.inv
    unfold keysOf at h
    split at h
    · rename_i k ks' e1 e2
      cases h
      rw [keyD_ok q e1, keysOf_ok s e2]
      rfl
    · cases h
def keyT : D → Option (List Key)
  | .tup xs => keysOf xs
  | _ => none
theorem keyT_ok {K : Frag} {w : Wd} {d : D} {v : V} {ks : List Key} (r : Rel K w d v) (h : keyT d = some ks) : ∃ b, v = .ref b ∧ w.H b = some (.tup (ks.map kV)) := by
  cases d with
  | tup xs =>
    unfold Rel at r
    obtain ⟨a, vs, e, q, s⟩ := r
    refine ⟨a, e, ?_⟩
    rw [← keysOf_ok s h]
    exact fr_here q
  | _ => cases h
/-- a dict with ints and texts as keys, one with tuples of them -/
def asdK (st : Sto) : D → Option (List Key × List D)
  | .dK ks xs => some (ks, xs)
  | .ref n => match st[n]? with
    | some (.dK ks xs) => some (ks, xs)
    | _ => none
  | _ => none
def asdT (st : Sto) : D → Option (List (List Key) × List D)
  | .dT ks xs => some (ks, xs)
  | .ref n => match st[n]? with
    | some (.dT ks xs) => some (ks, xs)
    | _ => none
  | _ => none
theorem asdK_ok {K : Frag} {w : Wd} {st : Sto} {d : D} {v : V} {ks : List Key} {xs : List D} (c : Corr K w st) (r : Rel K w d v) (h : asdK st d = some (ks, xs)) : ∃ a kvs, v = .ref a ∧ w.H a = some (.dK kvs) ∧ kvs.map (·.1) = ks ∧ Rels K w xs (kvs.map (·.2)) := by
  cases d with
  | dK k' x' =>
    cases h
    unfold Rel at r
    obtain ⟨a, kvs, e, q, s, t⟩ := r
    exact ⟨a, kvs, e, fr_here q, s, t⟩
  | ref n =>
    unfold Rel at r
    obtain ⟨a, e, q⟩ := r
    have h2 : (match st[n]? with
      | some (.dK ks xs) => some (ks, xs)
      | _ => none) = some (ks, xs) := h
    split at h2
    · rename_i hx
      cases h2
      obtain ⟨u, hu, kvs, rfl, s, t⟩ := c.obj n a _ q hx
      exact ⟨a, kvs, e, hu, s, t⟩
    · cases h2
  | _ => cases h
theorem asdT_ok {K : Frag} {w : Wd} {st : Sto} {d : D} {v : V} {ks : List (List Key)} {xs : List D} (c : Corr K w st) (r : Rel K w d v) (h : asdT st d = some (ks, xs)) : ∃ a kvs, v = .ref a ∧ w.H a = some (.dT kvs) ∧ kvs.map (·.1) = ks ∧ Rels K w xs (kvs.map (·.2)) := by
  cases d with
  | dT k' x' =>
    cases h
    unfold Rel at r
    obtain ⟨a, kvs, e, q, s, t⟩ := r
    exact ⟨a, kvs, e, fr_here q, s, t⟩
  | ref n =>
    unfold Rel at r
    obtain ⟨a, e, q⟩ := r
    have h2 : (match st[n]? with
      | some (.dT ks xs) => some (ks, xs)
      | _ => none) = some (ks, xs) := h
    split at h2
    · rename_i hx
      cases h2
      obtain ⟨u, hu, kvs, rfl, s, t⟩ := c.obj n a _ q hx
      exact ⟨a, kvs, e, hu, s, t⟩
    · cases h2
  | _ => cases h
/-- what the dict x holds at y: none, not a dict or not a key; some none, nothing there -/
def dgetO (x y : D) (st : Sto) : Option (Option D) := match asdK st x with
  | some (ks, xs) => (match keyD y with
    | some k => some (dval ks xs k)
    | none => none)
  | none => match asdT st x with
    | some (ks, xs) => (match keyT y with
      | some k => some (dval ks xs k)
      | none => none)
    | none => none
theorem dgetO_ok {K : Frag} {w : Wd} {st : Sto} {x y : D} {vx vy : V} {o : Option D} (c : Corr K w st) (rx : Rel K w x vx) (ry : Rel K w y vy) (h : dgetO x y st = some o) :
    ∃ a o', vx = .ref a ∧ DGet w.H a vy o' ∧ o'.isSome = o.isSome ∧ ∀ d, o = some d → ∃ v, o' = some v ∧ Rel K w d v := by
  unfold dgetO at h
  split at h
  · rename_i ks xs e1
    split at h
    · rename_i k e2
      cases h
      obtain ⟨a, kvs, rfl, q, s, t⟩ := asdK_ok c rx e1
      obtain rfl := keyD_ok ry e2
      refine ⟨a, _, rfl, DGet.k q, ?_, ?_⟩
      · have := dval_ok (j := k) s t
        cases ed : dval ks xs k with
        | none => rw [ed] at this; rw [this]; rfl
        | some d => rw [ed] at this; obtain ⟨v, e, _⟩ := this; rw [e]; rfl
      · intro d ed
        have := dval_ok (j := k) s t
        rw [ed] at this
        exact this
    · cases h
  · split at h
    · rename_i ks xs e1
      split at h
      · rename_i k e2
        cases h
        obtain ⟨a, kvs, rfl, q, s, t⟩ := asdT_ok c rx e1
        obtain ⟨b, rfl, hb⟩ := keyT_ok ry e2
        refine ⟨a, _, rfl, DGet.t q hb, ?_, ?_⟩
        · have := dval_ok (j := k) s t
          cases ed : dval ks xs k with
          | none => rw [ed] at this; rw [this]; rfl
          | some d => rw [ed] at this; obtain ⟨v, e, _⟩ := this; rw [e]; rfl
        · intro d ed
          have := dval_ok (j := k) s t
          rw [ed] at this
          exact this
      · cases h
    · cases h
section
variable {X : Cx} {Wx : WX} {a b c e o i : Expr} {es rs : List Expr} {ma mb mc me mo mi : M D} {ms : M (List D)} {pos p2 : Pos}
def dgetD : D2 := fun x y st => match dgetO x y st with
  | some (some d) => .ok d st
  | _ => .bad
theorem ce_dget {lv : Nat} (hr : Room lv X.A) (ho : CE X Wx o mo) (hi : CE X Wx i mi) (hs : NoSl i := by intro _ _; rfl) : CE X Wx (.Subscript o i pos) (e2 dgetD mo mi) := PE.mono (pe_dget (by have := hr.units; omega) ho hi hs) fun σ H Q h => by
  obtain ⟨mu, xi, env, st, re, c, h⟩ := h
  refine tG_mono (tG_bind (R := Rel X.K) re c h) fun v H1 ⟨mu1, xi1, d, st1, l1, r1, c1, re1, p1⟩ => ?_
  refine tG_mono (tG_bind (R := Rel X.K) re1 c1 p1) fun v2 H2 ⟨mu2, xi2, d2, st2, l2, r2, c2, re2, p2⟩ => ?_
  unfold dgetD at p2
  split at p2
  · rename_i d3 e3
    obtain ⟨a, o', ea, g, _, hd⟩ := dgetO_ok c2 (r1.le l2) r2 e3
    obtain ⟨v3, eo, r3⟩ := hd d3 rfl
    subst eo
    exact ⟨a, v3, ea, g, p2 ⟨H2, mu2, xi2⟩ v3 (.refl _) r3 c2⟩
  · exact p2.elim
def dinD (neg : Bool) : D2 := fun y x st => match dgetO x y st with
  | some o => .ok (.bl (if neg then !o.isSome else o.isSome)) st
  | none => .bad
theorem o_din {lv : Nat} (hr : Room lv X.A) : OpD X Wx (compareOp .In) (dinD false) := by
  intro pins s σ w st y x vy vx u v Q I c ry rx ru rv h
  unfold dinD at h
  split at h
  · rename_i o e1
    obtain ⟨a, o', rfl, g, e2, _⟩ := dgetO_ok c rx ry e1
    cases rv
    refine d_in (by have := hr.units; omega) I g ru fun s3 I3 => ⟨.bl o'.isSome, w.H, I3, rfl, ?_⟩
    rw [e2]
    exact h w _ (.refl _) (rel_bl _ _) c
  · exact h.elim
theorem o_dnotin {lv : Nat} (hr : Room lv X.A) : OpD X Wx (compareOp .NotIn) (dinD true) := by
  intro pins s σ w st y x vy vx u v Q I c ry rx ru rv h
  unfold dinD at h
  split at h
  · rename_i o e1
    obtain ⟨a, o', rfl, g, e2, _⟩ := dgetO_ok c rx ry e1
    cases rv
    refine d_notIn (by have := hr.units; omega) I g ru fun s3 I3 => ⟨.bl (!o'.isSome), w.H, I3, rfl, ?_⟩
    rw [e2]
    exact h w _ (.refl _) (rel_bl _ _) c
  · exact h.elim
/-- d[y] = v, d live -/
def dputO (x y z : D) (st : Sto) : Option Sto := match x with
  | .ref n => (match st[n]? with
    | some (.dK ks xs) => (match keyD y with
      | some k => if Ok (xs.length < sizeLine ∧ ks.Nodup) then some (st.set n (.dK (dkeys ks k) (dputs ks xs k z))) else none
      | none => none)
    | some (.dT ks xs) => (match keyT y with
      | some k => if Ok (xs.length < sizeLine ∧ ks.Nodup) then some (st.set n (.dT (dkeys ks k) (dputs ks xs k z))) else none
      | none => none)
    | _ => none)
  | _ => none
def sPut (mo mi me : M D) : MS := fun env st => (me env st).toS env fun z s1 => (mo env s1).toS env fun x s2 => (mi env s2).toS env fun y s3 => match dputO x y z s3 with
  | some s4 => .nx env s4
  | none => .bad
theorem cs_put {lv : Nat} (hr : Room lv X.A) (he : CE X Wx e me) (ho : CE X Wx o mo) (hi : CE X Wx i mi) (hs : swapsWith e (some (.Subscript o i p2)) pos.line X.env = pure false := by rfl) : CS X Wx (.Assign [.Subscript o i p2] e pos) (sPut mo mi me) :=
  PS.mono (ps_dput (by have := hr.units; omega) ho hi he hs) fun E σ H h => by
  obtain ⟨mu, xi, env, st, re, c, h⟩ := h
  refine tG_mono (tG_bindS (R := Rel X.K) re c h) fun v H1 ⟨mu1, xi1, d, st1, l1, r1, c1, re1, p1⟩ => ?_
  refine tG_mono (tG_bindS (R := Rel X.K) re1 c1 p1) fun v2 H2 ⟨mu2, xi2, d2, st2, l2, r2, c2, re2, p2⟩ => ?_
  refine tG_mono (tG_bindS (R := Rel X.K) re2 c2 p2) fun v3 H3 ⟨mu3, xi3, d3, st3, l3, r3, c3, re3, p3⟩ => ?_
  have rz := (r1.le l2).le l3
  have rx := r2.le l3
  cases es : dputO d2 d3 d st3 with
  | none =>
    rw [es] at p3
    exact p3.elim
  | some s4 =>
    rw [es] at p3
    unfold dputO at es
    split at es
    · rename_i n0
      unfold Rel at rx
      obtain ⟨a, ea, hn⟩ := rx
      split at es
      · rename_i ks xs hx
        split at es
        · rename_i k ek
          split at es
          · rename_i hz
            cases es
            obtain ⟨u, hu, kvs, rfl, s, t⟩ := c3.obj _ a _ hn hx
            obtain rfl := keyD_ok r3 ek
            have hlen : kvs.length < sizeLine := by have := t.length; rw [List.length_map] at this; rw [← this]; exact hz.1
            obtain ⟨m1, m2⟩ := putK_map (kvs := kvs) (by rw [s]; exact hz.2) k v
            rw [s] at m1 m2
            obtain ⟨l4, c4⟩ := c3.set (o := .dK (putK kvs k v)) (so := .dK (dkeys ks k) (dputs ks xs k d)) hn (List.getElem?_eq_some_iff.mp hx).1 ⟨_, rfl, m1, m2 t rz⟩
            exact ⟨a, _, ea, DPut.k hu hlen, p3 _ σ l4 (re3.le l4) c4⟩
          · cases es
        · cases es
      · rename_i ks xs hx
        split at es
        · rename_i k ek
          split at es
          · rename_i hz
            cases es
            obtain ⟨u, hu, kvs, rfl, s, t⟩ := c3.obj _ a _ hn hx
            obtain ⟨b, rfl, hb⟩ := keyT_ok r3 ek
            have hlen : kvs.length < sizeLine := by have := t.length; rw [List.length_map] at this; rw [← this]; exact hz.1
            obtain ⟨m1, m2⟩ := putK_map (kvs := kvs) (by rw [s]; exact hz.2) k v
            rw [s] at m1 m2
            obtain ⟨l4, c4⟩ := c3.set (o := .dT (putK kvs k v)) (so := .dT (dkeys ks k) (dputs ks xs k d)) hn (List.getElem?_eq_some_iff.mp hx).1 ⟨_, rfl, m1, m2 t rz⟩
            exact ⟨a, _, ea, DPut.t hu hb hlen, p3 _ σ l4 (re3.le l4) c4⟩
          · cases es
        · cases es
      · cases es
    · cases es
/-- {} -/
def eDT : M D := fun _ st => .ok (.ref st.length) (st ++ [.dT [] []])
def eDK : M D := fun _ st => .ok (.ref st.length) (st ++ [.dK [] []])
theorem ce_newT : CE X Wx (.Dict [] [] pos) eDT := PE.mono pe_dnewT fun σ H Q h => by
  obtain ⟨mu, xi, env, st, re, c, h⟩ := h
  intro p hp
  obtain ⟨l, c', e⟩ := c.push (p := p) (.dT []) (.dT [] []) hp ⟨[], rfl, rfl, .nil⟩
  exact h _ (.ref p) l (by unfold Rel; exact ⟨p, rfl, e⟩) c'
theorem ce_newK : CE X Wx (.Dict [] [] pos) eDK := PE.mono pe_dnewK fun σ H Q h => by
  obtain ⟨mu, xi, env, st, re, c, h⟩ := h
  intro p hp
  obtain ⟨l, c', e⟩ := c.push (p := p) (.dK []) (.dK [] []) hp ⟨[], rfl, rfl, .nil⟩
  exact h _ (.ref p) l (by unfold Rel; exact ⟨p, rfl, e⟩) c'

/-! ### operators by what stands there -/
def isStr : D → Bool
  | .str _ => true
  | _ => false
def isTup : D → Bool
  | .tup _ => true
  | _ => false
def isInt : D → Bool
  | .int _ => true
  | _ => false
def isIns (st : Sto) (x : D) : Bool := (insD st x).isSome
def addX : D2 := fun x y st => if isInt x = true then addI x y st else (if isStr x = true then addS x y st else (if isTup x = true then addT x y st else addL x y st))
theorem o_addX {X : Cx} {Wx : WX} : OpD X Wx (binaryOp .Add) addX := OpD.ite (fun x _ _ => isInt x) o_addI (OpD.ite (fun x _ _ => isStr x) o_addS (OpD.ite (fun x _ _ => isTup x) o_addT o_addL))
def mulX (lv : Bool) : D2 := fun x y st => if isInt x = true then mulI x y st else mulL lv x y st
theorem o_mulX {X : Cx} {Wx : WX} {lv : Bool} : OpD X Wx (binaryOp .Mult) (mulX lv) := OpD.ite (fun x _ _ => isInt x) o_mulI o_mulL
theorem o_iaddI {X : Cx} {Wx : WX} : OpD X Wx (inplaceOp .Add) addI := opd_int0 iop_add fun w i j => rel_int w _
theorem o_isubI {X : Cx} {Wx : WX} : OpD X Wx (inplaceOp .Sub) subI := opd_int0 iop_sub fun w i j => rel_int w _
end
end ND
end
noncomputable section
namespace ND
open PySem PySem.Spec L2 PyProof.Rows PySem.W
set_option maxHeartbeats 2000000 in
theorem meets_enum_tup {v : Value} {o : Obj} {H : Heap → Prop} (B : Begins v o H) :
    Meets (Builtin.«enumerate.__new__» ⟨[.type "enumerate", v], []⟩) (fun _ R s => H s.heap ∧
      R (.ok (.ret (.ref (s.heap.push o).objs.size))) { s with heap := (s.heap.push o).push { cls := .type "enumerate", data := .fields #[.none, .bool false, .ref s.heap.objs.size, rawInt 0, .none, .none] } }) :=
  .of_wp fun prog w A R s h => by
    obtain ⟨hp, g, d, tk, os⟩ := s
    obtain ⟨h1, h⟩ := h
    have hsub := sub_enumerate
    have q1 : ∀ {A' : Around} {E : Value → Shared → Prop} {Q : Value → Shared → Prop}, Q (.ref hp.objs.size) ⟨hp.push o, g, d, tk, os⟩ → wpAny (model prog w) A' (pyIter v) Q E ⟨hp, g, d, tk, os⟩ :=
      fun q => B.iter prog w _ _ ⟨hp, g, d, tk, os⟩ _ h1 q
    wp_walk using q1
    refine wpAny_stack_any fun st => wpAny_pure ?_
    split
    · rename_i c _ _ _ _ _
      cases (c == Value.type "enumerate")
      · wp_walk using q1
        exact ⟨_, rfl, h⟩
      · wp_walk using q1
        exact ⟨_, rfl, h⟩
    · wp_walk using q1
      exact ⟨_, rfl, h⟩
theorem call_enum_tup {prog : Program} {w : World} {A : Around} {E : Value → Shared → Prop} {s : Shared} {l : Addr} {items : Array Value} {Q : Value → Shared → Prop} (hL : s.heap.IsTuple l items)
    (h : ∀ h', IsEnum h' (s.heap.objs.size + 1) s.heap.objs.size 0 .none → h'.IsTupleIter s.heap.objs.size l 0 → h'.IsTuple l items → h'.objs.size = s.heap.objs.size + 2 →
      (∀ b o, s.heap.get? b = some o → h'.get? b = some o) → Q (.ref (s.heap.objs.size + 1)) { s with heap := h' }) :
    wpAny (model prog w) A (call (.type "enumerate") [.ref l]) Q E s := by
  refine callType_new F.called_enumerate (by decide) (F.typeCall_enumerate_1 _) (F.newCall_enumerate_1 _) (fun obj => F.args_object_init_2 obj _) F.entry_enumerate_new
    (meets_enum_tup (begins_tuple l items)) ⟨hL, ?_⟩
  have hz : (s.heap.push { cls := .type "tuple_iterator", data := .fields #[.ref l, .int 0 0] }).objs.size = s.heap.objs.size + 1 := Heap.size_push ..
  show _ ∧ _
  rw [hz]
  have he : IsEnum ((s.heap.push { cls := .type "tuple_iterator", data := .fields #[.ref l, .int 0 0] }).push
      { cls := .type "enumerate", data := .fields #[.none, .bool false, .ref s.heap.objs.size, rawInt 0, .none, .none] }) (s.heap.objs.size + 1) s.heap.objs.size 0 .none := by
    have := Heap.get?_push_size (s.heap.push { cls := .type "tuple_iterator", data := .fields #[.ref l, .int 0 0] })
      (o := { cls := .type "enumerate", data := .fields #[.none, .bool false, .ref s.heap.objs.size, rawInt 0, .none, .none] }) rfl
    rw [hz] at this
    exact this
  exact ⟨⟨_, he, rfl⟩, h _ he ⟨_, Heap.get?_push_of_some _ (Heap.get?_push_size _ rfl), rfl, rfl⟩ ((hL.push _).push _) (by rw [Heap.size_push, hz]) fun b o x => Heap.get?_push_of_some _ (Heap.get?_push_of_some _ x)⟩
/-- the tuple at a, each item in a new pair -/
def IteT (K : PySem.W.Frag) (a : Addr) : It :=
  ⟨fun i H => ∃ (xs : List V) (x : V), SqT K H a xs ∧ xs[i]? = some x, fun i H v H' => ∃ T x, v = .ref T ∧ H T = none ∧ H' = upd H T (.tup [.int (i : Nat), x]) ∧ ∀ xs, SqT K H a xs → xs[i]? = some x, fun i H => ∃ xs : List V, SqT K H a xs ∧ xs.length ≤ i⟩
theorem turn_enumT {P : Program} {w : World} {K : PySem.W.Frag} {elts : List Expr} {kk : Nat} {tpos : Pos} (a e it : Addr) (hea : e ≠ a) (hia : a ≠ it) :
    Turn P w K (.Tuple elts kk tpos) (IteT K a) [e, it] e (fun i h => (∃ old, IsEnum h e it ((i : Nat) : Int) old) ∧ h.IsTupleIter it a i ∧ e ≠ it) where
  mem := by simp
  obj := fun i h st b hb => by
    obtain ⟨⟨old, he⟩, ⟨o, ho, hc, hd⟩, _⟩ := st
    have e' : b = e ∨ b = it := by simpa using hb
    rcases e' with z | z
    · rw [z]; exact ⟨_, he, fun v q => nomatch q⟩
    · rw [z]; exact ⟨o, ho, fun v q => by rw [hd] at q; cases q⟩
  keep := fun i h h' st k => let ⟨⟨old, he⟩, hi, hne⟩ := st; ⟨⟨old, k e (by simp) _ he⟩, hi.at fun o q => k it (by simp) o q, hne⟩
  item := by
    intro X hP hw hK hc i pins s σ H E I hf st hg
    subst hP hw hK
    obtain ⟨⟨old, he⟩, hit, hne⟩ := st
    obtain ⟨xs, x, hq, hx⟩ := hg
    obtain ⟨its, rv, p, hz⟩ := I.tuple hq
    obtain ⟨u, hu, ru⟩ := rv.get hx
    have hel : e < s.heap.objs.size := Heap.lt_size he
    have hil : it < s.heap.objs.size := by obtain ⟨_, q, _⟩ := hit; exact Heap.lt_size q
    have hh : X.A.in1.handled = none := by simp [I.ok.hd hc]
    have hlt : i < its.toArray.size := by
      have := (List.getElem?_eq_some_iff.mp hu).1
      simpa using this
    refine wpAny_pyNext_enum_itemD (Draws.tuple hh it a hia its.toArray) he ⟨hit, p⟩ hlt hne (by simp [hne, hea]) fun y h' tk hPx ho hst hT hsz hk => ?_
    have hyu : y = u := by
      have h1 : its.toArray[i]? = some y := hPx
      have h2 : its.toArray[i]? = some u := by simpa using hu
      rw [h1] at h2
      exact Option.some.inj h2
    subst hyu
    refine ⟨_, rfl, wpAny_letOwnedTupleGo_enum (s := { s with heap := h', toks := tk + 1 }) ho fun h'' he' sb => ?_⟩
    have hT2 : h''.get? s.heap.objs.size = some { cls := .type "tuple", data := .seq #[.int i tk, y] } := (sb.2 _ (Nat.ne_of_gt hel)).trans hT
    have new : ObjOk X.prog X.w (upd H s.heap.objs.size (.tup [.int (i : Nat), x])) h'' s.heap.objs.size (.tup [.int (i : Nat), x]) :=
      ⟨by show 2 ≤ sizeLine; decide, [.int i tk, y], .cons ⟨_, rfl⟩ (.cons ru .nil), ⟨_, hT2, rfl, _, rfl⟩⟩
    have I1 : Inv X pins σ (upd H s.heap.objs.size (.tup [.int (i : Nat), x])) { s with heap := h'', toks := tk + 1 } :=
      I.turnedNew (ch := [e, it]) (fun b ob hb q => (sb.2 b (fun z => hb (by simp [z]))).trans (hk b ob (fun z => hb (by simp [z])) (fun z => hb (by simp [z])) q)) hf (Nat.le_refl _) new
    refine ⟨.ref s.heap.objs.size, _, I1, rfl, ⟨_, x, rfl, I.hok.fresh (Nat.le_refl _), rfl, fun ys hy => ?_⟩, ⟨⟨y, ?_⟩, hst.1.at fun o q => (sb.2 it (Ne.symm hne)).trans q, hne⟩, fun b hb => ?_⟩
    · rw [I.tuple_inj hy hq]
      exact hx
    · have e1 : ((i + 1 : Nat) : Int) = (i : Int) + 1 := by omega
      rw [e1]; exact he'
    · have hb' : b < s.heap.objs.size := by
        have e' : b = e ∨ b = it := by simpa using hb
        rcases e' with z | z
        · rw [z]; exact hel
        · rw [z]; exact hil
      rw [upd_ne (Nat.ne_of_lt hb')]
      exact (hf b hb).1
  done := by
    intro X hP hw hK hc i pins s σ H E I hf st hg
    subst hP hw hK
    obtain ⟨⟨old, he⟩, hit, hne⟩ := st
    obtain ⟨xs, hq, hx⟩ := hg
    obtain ⟨its, rv, p, hz⟩ := I.tuple hq
    obtain ⟨f0, f1, f2, f3, f4, f5⟩ := hf it (by simp)
    have hl := rv.length
    have hh : X.A.in1.handled = none := by simp [I.ok.hd hc]
    have D : Draws X.prog X.w X.A.in1 it [it, a] i (fun _ _ => True) (fun j h => j = i ∧ h.IsTupleIter it a j ∧ h.IsTuple a its.toArray) :=
      ⟨fun _ _ st => let ⟨o, ho, _⟩ := st.2.1; ⟨o, ho⟩, fun _ _ _ st hk => ⟨st.1, st.2.1.at fun o e => hk it (by simp) o e, st.2.2.at fun o e => hk a (by simp) o e⟩, fun j s Q E hi st _ => absurd st.1 (Nat.ne_of_lt hi),
        fun s Q E st hE => wpAny_nextOf_tuple_end hh st.2.1 st.2.2 (by simp; omega) hE⟩
    exact wpAny_pyNext_enum_endD D he ⟨rfl, hit, p⟩ fun h' eb => ⟨rfl, I.turned (t' := s.toks) (fun b o hb q => eb b o hb q) f0 f1 f3 f4 f5⟩
  self := fun A i s Q E st h => let ⟨⟨_, he⟩, _⟩ := st; wpAny_pyIter_enum he h
def iEnumT (K : PySem.W.Frag) (ta : TA) : TI := fun σ H R => ta σ H fun vs H1 => ∃ a xs, vs = [.ref a] ∧ SqT K H1 a xs ∧ R (IteT K a) H1
theorem pi_enumT {X : Cx} {e : Expr} {ta : TA} {p pos tpos : Pos} {elts : List Expr} {kk : Nat} (hg : Gl X "enumerate") (hm : X.mg "enumerate" = none) (ha : PA X [e] ta) (hs : starEach [e] X.env = [(false, eval e X.env)] := by rfl) :
    PI X (.Tuple elts kk tpos) (.Call (.Name "enumerate" p) [e] [] pos) (iEnumT X.K ta) := by
  refine ⟨fun pins s σ H R I h => ?_⟩
  refine Call_ (ld_blt I hg hm boot_enumerate (PyProof.Rows.callWith_type1 (thn (ha.run pos pins s σ H _ I h) fun us s1 ⟨vs, H1, I1, r1, q1⟩ => ?_) hs rfl))
  obtain ⟨a, xs, ex, hq, q⟩ := q1
  subst ex
  cases r1 with
  | cons r rr =>
    cases rr
    cases r
    obtain ⟨its, rv, p', hz⟩ := I1.tuple hq
    have hT : s1.heap.IsTuple a its.toArray := p'
    have hal : a < s1.heap.objs.size := by
      obtain ⟨o, ho, _⟩ := id hT
      exact Heap.lt_size ho
    refine call_enum_tup hT fun h' he hit hT' hsz hk => wpAny_pyIter_enum he ?_
    have I2 : Inv X pins σ H1 { s1 with heap := h' } := I1.kept (t' := s1.toks) hk
    refine ⟨s1.heap.objs.size + 1, [s1.heap.objs.size + 1, s1.heap.objs.size], _, _, H1, rfl, I2, turn_enumT a (s1.heap.objs.size + 1) s1.heap.objs.size (Nat.ne_of_gt (Nat.lt_succ_of_lt hal)) (Nat.ne_of_lt hal), ⟨⟨.none, he⟩, hit, Nat.succ_ne_self _⟩, fun b hb => ?_, q⟩
    have e' : b = s1.heap.objs.size + 1 ∨ b = s1.heap.objs.size := by simpa using hb
    have hle : s1.heap.objs.size ≤ b := by
      rcases e' with z | z
      · rw [z]; exact Nat.le_add_right _ _
      · rw [z]; exact Nat.le_refl _
    exact I1.fpOk hle (I1.hok.fresh hle)
theorem wk_enumT {K : PySem.W.Frag} {w₀ : Wd} {q : Addr} {xs : List D} {vs : List V} (h : SqT K w₀.fr q vs) (s : Rels K w₀ xs vs) : Wk K w₀ (.fz (enumD 0 xs)) (IteT K q) := fun i w st l c => by
  have h' : SqT K w.H q vs := ex_t (fun _ _ => fr_here) (ex_t l.fr h)
  refine ⟨fun e => ⟨vs, h', ?_⟩, fun d e => ?_⟩
  · have e2 : (enumD 0 xs)[i]? = none := Option.some.inj e
    have e3 := List.getElem?_eq_none_iff.mp e2
    rw [enumD_len] at e3
    rw [← s.length]
    exact e3
  · have e2 : (enumD 0 xs)[i]? = some d := Option.some.inj e
    rw [enumD_at] at e2
    cases e3 : xs[i]? with
    | none =>
      rw [e3] at e2
      cases e2
    | some x0 =>
      rw [e3] at e2
      cases e2
      obtain ⟨v, hv, rv⟩ := s.get e3
      refine ⟨⟨vs, v, h', hv⟩, fun x H' y => ?_⟩
      obtain ⟨T, x1, ex, hT, eH, y⟩ := y
      subst ex eH
      have e4 := y vs h'
      rw [hv] at e4
      cases e4
      obtain ⟨l2, c2, e5⟩ := c.new (.tup [.int (i : Nat), v]) hT
      refine ⟨fun b u hb => by
        rw [upd_ne fun e => by
          rw [e, hT] at hb
          cases hb]
        exact hb, ?_⟩
      unfold Rel
      refine ⟨T, _, rfl, e5, .cons ?_ (.cons ((Rel.sub l _ _ rv).le l2) .nil)⟩
      rw [show (0 + i : Nat) = i by omega]
      exact rel_int _ _
def iEnumDT (m : M D) : M Src := fun env st => (m env st).bind fun d s1 => match d with
  | .tup xs => .ok (.fz (enumD 0 xs)) s1
  | _ => .bad
section
variable {X : Cx} {Wx : WX} {a : Expr} {ma : M D} {tpos pos p : Pos}
theorem ci_enumT {elts : List Expr} {kk : Nat} (hm : X.mg "enumerate" = none) (ha : CE X Wx a ma) (hg : Gl X "enumerate" := by rfl) (hs : starEach [a] X.env = [(false, eval a X.env)] := by rfl) :
    CI X Wx (.Tuple elts kk tpos) (.Call (.Name "enumerate" p) [a] [] pos) (iEnumDT ma) := PI.mono (pi_enumT hg hm (pa_cons ha pa_nil hs) hs) fun σ H R h => by
  obtain ⟨mu, xi, env, st, re, c, h⟩ := h
  refine tG_mono (tG_bind (R := Rel X.K) re c h) fun v H1 ⟨mu1, xi1, d, st1, l1, r1, c1, re1, p1⟩ => ?_
  cases d with
  | tup xs =>
    unfold Rel at r1
    obtain ⟨q, vs, e, hq, s⟩ := r1
    exact ⟨q, vs, by rw [e], .inl (.inl (fr_here hq)), p1 ⟨H1, mu1, xi1⟩ _ (.refl _) (wk_enumT (.inl (.inl hq)) s) c1⟩
  | _ => exact p1.elim
end
end ND
end
namespace ND
open PySem L2 PyProof.Rows PySem.W
theorem takes_no {X : Cx} : Takes X noW := fun u s' ⟨_, _, _, _, _, _, _, _, _, _, _, _, _, _, _, _, x⟩ => x.elim
/-- a class's body -/
def cbody : Stmt → List Stmt
  | .ClassDef (body := b) .. => b
  | _ => []
/-- own facts: a list of Bools about K -/
abbrev XF : Type := Frag → List Bool
abbrev xfB (xf : XF) : Frag → Bool := fun K => (xf K).all id
structure HC (fa : List He.Fa) (fn : List He.DefD) (xf : XF) (w : World) (K : Frag) (mg : Str → Option Value) : Prop where
  ex : ∃ hp : Heap, K.In hp ∧ hp.Ns mainGlobals mg ∧ He.SaysX fa fn [] [] (xfB xf) w hp K
section
variable {fa : List He.Fa} {fn : List He.DefD} {xf : XF} {w : World} {K : Frag} {mg : Str → Option Value}
theorem HC.fact (C : HC fa fn xf w K mg) (i : Nat) {f : He.Fa} (h : fa[i]? = some f) : f.ok K = true := by
  obtain ⟨hp, X, G, c⟩ := C.ex
  exact He.SaysD.fact c.t.d i h
theorem HC.def_ (C : HC fa fn xf w K mg) (i : Nat) {d : He.DefD} (h : fn[i]? = some d) : ∃ fd, FunD K d.name d.qual d.params d.body d.scope (d.dvs K) (d.kws K) (He.fAd K d.at_) fd := by
  obtain ⟨hp, X, G, c⟩ := C.ex
  exact He.SaysD.def_ c.t.d i h
theorem HC.xt (C : HC fa fn xf w K mg) (i : Nat) {b : Bool} (h : (xf K)[i]? = some b) : b = true := by
  obtain ⟨hp, X, G, c⟩ := C.ex
  have := List.all_eq_true.mp c.more b (List.mem_of_getElem? h)
  exact this
theorem HC.glo (C : HC fa fn xf w K mg) (i : Nat) {x : Str} (h : fa[i]? = some (.glo x)) : mg x = some (.ref (He.ga K x)) := by
  obtain ⟨hp, X, G, c⟩ := C.ex
  exact He.glo_ok X G (He.SaysD.fact c.t.d i h)
theorem HC.free (C : HC fa fn xf w K mg) (i : Nat) {x : Str} (h : fa[i]? = some (.free x)) : mg x = none := by
  obtain ⟨hp, X, G, c⟩ := C.ex
  exact He.free_ok X G (He.SaysD.fact c.t.d i h)
end
end ND
namespace ND
open PySem L2 PyProof.Rows PySem.W
theorem walk_ofX {l : PySem.W.OpenLaw} {n k : Nat} {q : Program} {loose : List Str} {XP : (Str → Option Value) → Heap → Prop} {YP : World → Heap → Prop} {d : DefRec} {CX : World → CXT} {x : Str}
    (hn : l.most = some n) (hn2 : n ≤ sizeLine) (hdf : d.params.defaults = []) (hr : Room k callerA)
    (F : ∀ (w : World) (mg : Str → Option Value) (fa : Addr) (h : Heap), YP w h → h.Ns mainGlobals mg → mg d.name = some (.ref fa) →
      ∃ (K : PySem.W.Frag) (fd : FuncData) (sp : Sp), K.In h ∧ (∀ (s : Shared) (u : Value), BindsTo s fd ⟨[u], []⟩ [(x, u)]) ∧
        (∀ (H : Hp) (a : Addr) (ns : List Int), ns.length ≤ n → Only H → SqL K H a (ns.map V.int) → sp [.ref a] H (fun v _ => v = .bl true) fun _ _ _ => False) ∧
        ∀ base : Heap, K.In base → base.Ns mainGlobals mg → FnOk l.prog w K mg base (CX w) k fa fd [x] sp)
    (hCX : ∀ (w : World) (H : Hp) (s : Shared) (e : Value) (s' : Shared), CX w [] H s (fun _ _ _ => False) e s' → False) :
    PySem.W.WalkO q loose XP YP l.row.toRowW d [] (fun f vs => PySem.call f vs) := by
  refine Att.attach_call hn hdf fun w s0 s1 mg mb fa o pm cd doc a vs ns G Y ho hd hcd hmg hobj hints hlen hg => ?_
  obtain ⟨K, fd, sp, KX, hb, hsp, hF⟩ := F w mg fa _ Y G.T.g hmg
  exact law_call KX G.T.g G.T.b G.T.builtins G.T.nolimit hg hobj hints (Nat.le_trans hlen hn2) hr hF hb (fun H hO hS => hsp H a ns hlen hO hS) fun H e s' => hCX w H s1 e s'
/-- the law's promise from its mirror -/
theorem sp_of {K : Frag} {F : DF} {H : Hp} {a : Addr} {ns : List Int} {st : Sto} (hS : SqL K H a (ns.map V.int)) (h : F [.ext ns] [] = .ok (.bl true) st) : spM K F [.ref a] H (fun v _ => v = .bl true) fun _ _ _ => False := by
  have e : (⟨H, [], []⟩ : Wd).fr = H := by
    funext b
    unfold Wd.fr
    rw [if_neg (by simp)]
  refine ⟨[], [], [.ext ns], [], .cons ?_ .nil, ⟨List.nodup_nil, rfl, fun b hb => absurd hb List.not_mem_nil, fun b hb => absurd hb List.not_mem_nil, fun n b o hb => by cases hb⟩, ?_⟩
  · unfold Rel
    refine ⟨a, rfl, ?_⟩
    rw [e]
    exact hS
  · rw [h]
    intro w' v l r c
    unfold Rel at r
    exact r
end ND
noncomputable section
namespace ND
open PySem L2
theorem ok_true {p : Prop} (h : p) : Ok p = True := eq_true (show Ok p from h)
@[simp] theorem ok_tt : Ok True = True := ok_true True.intro
@[simp] theorem ok_szl {n : Nat} (h : n ≤ 16777216) : Ok (n ≤ sizeLine) = True := ok_true (by rw [sizeLine_eq]; exact h)
@[simp] theorem ok_szs {n : Nat} (h : n < 16777216) : Ok (n < sizeLine) = True := ok_true (by rw [sizeLine_eq]; exact h)
/-! ### strictness: simp goes into what runs first -/
theorem bind_cong {α β : Type} {r r' : Res α} {f : α → Sto → Res β} (h : r = r') : r.bind f = r'.bind f := by rw [h]
theorem toS_cong {α : Type} {r r' : Res α} {env : Env} {f : α → Sto → SRes} (h : r = r') : r.toS env f = r'.toS env f := by rw [h]
@[simp] theorem toS_ok {α : Type} {a : α} {st : Sto} {env : Env} {f : α → Sto → SRes} : (Res.ok a st).toS env f = f a st := rfl
def SRes.seq (r : SRes) (n : MS) : SRes := match r with
  | .nx e s => n e s
  | r => r
theorem seq_cong {r r' : SRes} {n : MS} (h : r = r') : r.seq n = r'.seq n := by rw [h]
@[simp] theorem seq_nx {e : Env} {s : Sto} {n : MS} : (SRes.nx e s).seq n = n e s := rfl
@[simp] theorem seq_rt {d : D} {s : Sto} {n : MS} : (SRes.rt d s).seq n = .rt d s := rfl
@[simp] theorem seq_bk {e : Env} {s : Sto} {n : MS} : (SRes.bk e s).seq n = .bk e s := rfl
@[simp] theorem seq_ct {e : Env} {s : Sto} {n : MS} : (SRes.ct e s).seq n = .ct e s := rfl
section
variable {env : Env} {st : Sto} {ma mb mc : M D} {ms : M (List D)} {m n : MS} {t tb : M Bool} {d x y z : D}
@[simp] theorem ev_sSeq : sSeq m n env st = (m env st).seq n := by
  unfold sSeq SRes.seq
  cases m env st <;> rfl
@[simp] theorem ev_sNil : sNil env st = .nx env st := rfl
@[simp] theorem ev_sRet : sRet ma env st = (ma env st).toS env fun d s1 => .rt d s1 := rfl
@[simp] theorem ev_sRetN : sRetN env st = .rt .non st := rfl
@[simp] theorem ev_sBrk : sBrk env st = .bk env st := rfl
@[simp] theorem ev_sCnt : sCnt env st = .ct env st := rfl
@[simp] theorem ev_sDrop : sDrop ma env st = (ma env st).toS env fun _ s1 => .nx env s1 := rfl
@[simp] theorem ev_sIf : sIf t m n env st = (t env st).toS env fun b s1 => if b = true then m env s1 else n env s1 := rfl
@[simp] theorem ev_sSet {i : Nat} : sSet i ma env st = (ma env st).toS env fun d s1 => .nx (env.set i (some d)) s1 := rfl
@[simp] theorem ev_sAug {i : Nat} {g : D2} : sAug i g ma env st = (match env[i]? with
  | some (some x) => (ma env st).toS env fun y s1 => (g x y s1).toS env fun z s2 => .nx (env.set i (some z)) s2
  | _ => .bad) := rfl
theorem set_new {i : Nat} : sSet i (eLst true aNil) env st = .nx (env.set i (some (.ref st.length))) (st ++ [.lst []]) := by
  have h : Ok (([] : List D).length ≤ sizeLine) := Nat.zero_le _
  have e : eLst true aNil env st = .ok (.ref st.length) (st ++ [.lst []]) := by
    unfold eLst aNil
    show (if Ok (([] : List D).length ≤ sizeLine) then mkL true [] st else .bad) = mkL true [] st
    rw [if_pos h]
  rw [ev_sSet, e, toS_ok]
@[simp] theorem ev_sSetIx : sSetIx ma mb mc env st = (mc env st).toS env fun z s1 => (ma env s1).toS env fun x s2 => (mb env s2).toS env fun y s3 => match setL x y z s3 with
  | some s4 => .nx env s4
  | none => .bad := rfl
@[simp] theorem ev_sFldD {ft : FT} {f : String} : sFldD ft f ma mb env st = (mb env st).toS env fun y s1 => (ma env s1).toS env fun x s2 => match x with
  | .ref n => (match s2[n]? with
    | some (.ins k fs xs) => if Ok ((k, f) ∈ ft ∧ fs.length < 1000) then .nx env (s2.set n (.ins k (fput fs xs f y).1 (fput fs xs f y).2)) else .bad
    | _ => .bad)
  | _ => .bad := rfl
@[simp] theorem ev_sPut : sPut ma mb mc env st = (mc env st).toS env fun z s1 => (ma env s1).toS env fun x s2 => (mb env s2).toS env fun y s3 => match dputO x y z s3 with
  | some s4 => .nx env s4
  | none => .bad := rfl
@[simp] theorem ev_sFor {mi : M Src} {g : GD} : sFor mi g m env st = (mi env st).toS env fun S s1 => loopR S.rd g m S.n 0 env s1 := rfl
@[simp] theorem ev_sPar {i j : Nat} : sPar i j ms env st = (ms env st).toS env fun ds s1 => match ds with
  | [a, b] => .nx ((env.set i (some a)).set j (some b)) s1
  | _ => .bad := by
  unfold sPar
  rfl
@[simp] theorem ev_eK : eK d env st = .ok d st := rfl
@[simp] theorem ev_eVar {i : Nat} : eVar i env st = (match env[i]? with
  | some (some d) => .ok d st
  | _ => .bad) := rfl
@[simp] theorem ev_e2 {g : D2} : e2 g ma mb env st = (ma env st).bind fun x s1 => (mb env s1).bind fun y s2 => g x y s2 := rfl
@[simp] theorem ev_aNil : aNil env st = .ok [] st := rfl
@[simp] theorem ev_aCons : aCons ma ms env st = (ma env st).bind fun d s1 => (ms env s1).bind fun ds s2 => .ok (d :: ds) s2 := rfl
@[simp] theorem ev_eC {g : DF} : eC g ms env st = (ms env st).bind fun ds s1 => g ds s1 := rfl
@[simp] theorem ev_eC0 {g : DF} : eC0 g env st = g [] st := rfl
@[simp] theorem ev_toB : toB ma env st = (ma env st).bind fun d s1 => match d with
  | .bl b => .ok b s1
  | _ => .bad := rfl
@[simp] theorem ev_tru : tru ma env st = (ma env st).bind fun d s1 => match truD s1 d with
  | some b => .ok b s1
  | none => .bad := rfl
@[simp] theorem ev_bAnd : bAnd t tb env st = (t env st).bind fun b s1 => if b = true then tb env s1 else .ok false s1 := rfl
@[simp] theorem ev_bOr : bOr t tb env st = (t env st).bind fun b s1 => if b = true then .ok true s1 else tb env s1 := rfl
@[simp] theorem ev_bNot : bNot t env st = (t env st).bind fun b s1 => .ok (!b) s1 := rfl
@[simp] theorem ev_bYes : bYes env st = .ok true st := rfl
@[simp] theorem ev_eIf : eIf t ma mb env st = (t env st).bind fun b s1 => if b = true then ma env s1 else mb env s1 := rfl
@[simp] theorem ev_eAnd : eAnd ma mb env st = (ma env st).bind fun x s1 => match truD s1 x with
  | some true => mb env s1
  | some false => .ok x s1
  | none => .bad := rfl
@[simp] theorem ev_eOr : eOr ma mb env st = (ma env st).bind fun x s1 => match truD s1 x with
  | some true => .ok x s1
  | some false => mb env s1
  | none => .bad := rfl
@[simp] theorem ev_eNot : eNot ma env st = (ma env st).bind fun x s1 => match truD s1 x with
  | some b => .ok (.bl (!b)) s1
  | none => .bad := by
  rfl
@[simp] theorem ev_eLst {lv : Bool} : eLst lv ms env st = (ms env st).bind fun xs s1 => if Ok (xs.length ≤ sizeLine) then mkL lv xs s1 else .bad := rfl
@[simp high] theorem ev_eLst0 {lv : Bool} : eLst lv aNil env st = mkL lv [] st := by
  have h : Ok (([] : List D).length ≤ sizeLine) := Nat.zero_le _
  unfold eLst aNil
  show (if Ok (([] : List D).length ≤ sizeLine) then mkL lv [] st else .bad) = mkL lv [] st
  rw [if_pos h]
@[simp high] theorem ev_eTup0 : eTup aNil env st = .ok (.tup []) st := by
  have h : Ok (([] : List D).length ≤ sizeLine) := Nat.zero_le _
  unfold eTup aNil
  show (if Ok (([] : List D).length ≤ sizeLine) then Res.ok (D.tup []) st else .bad) = Res.ok (D.tup []) st
  rw [if_pos h]
@[simp] theorem ev_eTup : eTup ms env st = (ms env st).bind fun xs s1 => if Ok (xs.length ≤ sizeLine) then .ok (.tup xs) s1 else .bad := rfl
@[simp] theorem ev_eSl {ml mh : M (Option Int)} : eSl ma ml mh env st = (ma env st).bind fun x s1 => (ml env s1).bind fun lo s2 => (mh env s2).bind fun hi s3 => slD x lo hi s3 := rfl
@[simp] theorem ev_oNone : oNone env st = .ok none st := rfl
@[simp] theorem ev_oSome : oSome ma env st = (ma env st).bind fun d s1 => match d with
  | .int i => .ok (some i) s1
  | _ => .bad := rfl
@[simp] theorem ev_eFld {ft : FT} {f : String} : eFld ft f ma env st = (ma env st).bind fun x s1 => match insD s1 x with
  | some (k, fs, xs) => if (k, f) ∈ ft then (match fget fs xs f with
    | some d => .ok d s1
    | none => .bad) else .bad
  | none => .bad := rfl
@[simp] theorem ev_eMeth {mt : MT} {f : String} : eMeth mt f ma ms env st = (ma env st).bind fun x s1 => match insD s1 x with
  | some (k, fs, _) => (match mfind mt k f with
    | some F => if f ∈ fs then .bad else (ms env s1).bind fun ds s2 => F (x :: ds) s2
    | none => .bad)
  | none => .bad := rfl
@[simp] theorem ev_eBM {g : BM} : eBM g ma ms env st = (ma env st).bind fun x s1 => match seqL s1 x with
  | some _ => (ms env s1).bind fun ds s2 => g x ds s2
  | none => .bad := rfl
@[simp] theorem ev_eCh {c : MC} : eCh ma c env st = (ma env st).bind fun x s1 => c x env s1 := rfl
@[simp] theorem ev_chL {g : D2} {c : MC} : chL g mb c x env st = (mb env st).bind fun y s1 => (g x y s1).bind fun r s2 => match r with
  | .bl true => c y env s2
  | .bl false => .ok (.bl false) s2
  | _ => .bad := rfl
@[simp] theorem ev_iVal : iVal ma env st = (ma env st).bind srcD := rfl
def rng1 (j : Int) (st : Sto) : Res Src := if Ok (-(2 ^ 62) ≤ j ∧ j < 2 ^ 62) then .ok (.fz (rangeD 0 j.toNat)) st else .bad
def rng2 (i j : Int) (st : Sto) : Res Src := if Ok (-(2 ^ 62) ≤ i ∧ i < 2 ^ 62 ∧ -(2 ^ 62) ≤ j ∧ j < 2 ^ 62) then .ok (.fz (rangeD i (j - i).toNat)) st else .bad
theorem rng1_ok {j : Int} {st : Sto} (h0 : -1000000000000 ≤ j) (h : j < 1000000000000) : rng1 j st = .ok (.fz (rangeD 0 j.toNat)) st := if_pos (show Ok _ from (⟨by omega, by omega⟩ : -(2 ^ 62) ≤ j ∧ j < 2 ^ 62))
theorem rng2_ok {i j : Int} {st : Sto} (h0 : -1000000000000 ≤ i) (h : i < 1000000000000) (h2 : -1000000000000 ≤ j) (h3 : j < 1000000000000) : rng2 i j st = .ok (.fz (rangeD i (j - i).toNat)) st := if_pos (show Ok _ from (⟨by omega, by omega, by omega, by omega⟩ : -(2 ^ 62) ≤ i ∧ i < 2 ^ 62 ∧ -(2 ^ 62) ≤ j ∧ j < 2 ^ 62))
@[simp] theorem ev_iR1 : iR1 ma env st = (ma env st).bind fun d s1 => match d with
  | .int j => rng1 j s1
  | _ => .bad := rfl
@[simp] theorem ev_iR2 : iR2 ma mb env st = (ma env st).bind fun d s1 => (mb env s1).bind fun d2 s2 => match d, d2 with
  | .int i, .int j => rng2 i j s2
  | _, _ => .bad := rfl
@[simp] theorem ev_iEnumD : iEnumD ma env st = (ma env st).bind fun d s1 => match d with
  | .lst xs => .ok (.fz (enumD 0 xs)) s1
  | _ => .bad := rfl
@[simp] theorem ev_iEnumDT : iEnumDT ma env st = (ma env st).bind fun d s1 => match d with
  | .tup xs => .ok (.fz (enumD 0 xs)) s1
  | _ => .bad := rfl
@[simp] theorem ev_eComp {lv : Bool} {mi : M Src} {g : GD} {vs : List Nat} : eComp lv mi g t ma vs env st = (mi env st).bind fun S s1 => (compR S.rd g t ma (wipeD env vs) S.n 0 [] s1).bind fun acc s2 => mkL lv acc s2 := rfl
@[simp] theorem ev_gNm {i : Nat} : gNm i d env = some (env.set i (some d)) := rfl
@[simp] theorem ev_eDT : eDT env st = .ok (.ref st.length) (st ++ [.dT [] []]) := rfl
@[simp] theorem ev_wipe0 : wipeD env [] = env := rfl
@[simp] theorem ev_wipe1 {v : Nat} {vs : List Nat} : wipeD env (v :: vs) = (wipeD env vs).set v none := rfl
@[simp] theorem ev_mkL_f {xs : List D} : mkL false xs st = .ok (.lst xs) st := rfl
@[simp] theorem ev_mkL_t {xs : List D} : mkL true xs st = .ok (.ref st.length) (st ++ [.lst xs]) := rfl
/-! ### operations -/
@[simp] theorem op_i2 {C : Int → Int → Bool} {g : Int → Int → D} {i j : Int} : i2 C g (.int i) (.int j) st = if C i j = true then .ok (g i j) st else .bad := rfl
@[simp] theorem op_addI {i j : Int} : addI (.int i) (.int j) st = .ok (.int (i + j)) st := rfl
@[simp] theorem op_subI {i j : Int} : subI (.int i) (.int j) st = .ok (.int (i - j)) st := rfl
@[simp] theorem op_ltI {i j : Int} : ltI (.int i) (.int j) st = .ok (.bl (decide (i < j))) st := rfl
@[simp] theorem op_leI {i j : Int} : leI (.int i) (.int j) st = .ok (.bl (decide (i ≤ j))) st := rfl
@[simp] theorem op_gtI {i j : Int} : gtI (.int i) (.int j) st = .ok (.bl (decide (j < i))) st := rfl
@[simp] theorem op_geI {i j : Int} : geI (.int i) (.int j) st = .ok (.bl (decide (j ≤ i))) st := rfl
theorem op_mulI {i j : Int} (h : i.natAbs.log2 + j.natAbs.log2 < 1000000) : mulI (.int i) (.int j) st = .ok (.int (i * j)) st := by
  show (if mulC i j = true then Res.ok (D.int (i * j)) st else .bad) = _
  rw [if_pos (by unfold mulC; exact ok_mk h)]
theorem op_divI {i j : Int} (h : 0 < j) (h2 : j.natAbs.log2 < 9000) : divI (.int i) (.int j) st = .ok (.int (i / j)) st := by
  show (if divC i j = true then Res.ok (D.int (i / j)) st else .bad) = _
  rw [if_pos (by unfold divC; rw [ok_mk h, ok_mk h2] <;> rfl)]
theorem op_modI {i j : Int} (h : 0 < j) : modI (.int i) (.int j) st = .ok (.int (i % j)) st := by
  show (if decide (Ok (0 < j)) = true then Res.ok (D.int (i % j)) st else .bad) = _
  rw [if_pos (ok_mk h)]
theorem powC_mk {i j : Int} (h1 : 0 ≤ j) (h2 : j ≤ 1000000) (h3 : i.natAbs < 2 ^ 64) : powC i j = true := by
  unfold powC
  rw [ok_mk h1, ok_mk h2, ok_mk h3]
  rfl
theorem op_powI {i j : Int} (h : powC i j = true) : powI (.int i) (.int j) st = .ok (.int (i ^ j.toNat)) st := by
  show (if powC i j = true then Res.ok (D.int (i ^ j.toNat)) st else .bad) = _
  rw [if_pos h]
@[simp] theorem op_addX_i {i : Int} : addX (.int i) y st = addI (.int i) y st := rfl
@[simp] theorem op_addX_s {s : Str} : addX (.str s) y st = addS (.str s) y st := rfl
@[simp] theorem op_addX_t {xs : List D} : addX (.tup xs) y st = addT (.tup xs) y st := rfl
@[simp] theorem op_addX_l {xs : List D} : addX (.lst xs) y st = addL (.lst xs) y st := rfl
@[simp] theorem op_addX_r {n : Nat} : addX (.ref n) y st = addL (.ref n) y st := rfl
@[simp] theorem op_mulX_i {lv : Bool} {i : Int} : mulX lv (.int i) y st = mulI (.int i) y st := rfl
@[simp] theorem op_mulX_l {lv : Bool} {xs : List D} : mulX lv (.lst xs) y st = mulL lv (.lst xs) y st := rfl
@[simp] theorem op_isN_non {b : Bool} : isN b .non .non st = .ok (.bl (!b)) st := rfl
@[simp] theorem op_isN_tup {b : Bool} {xs : List D} : isN b (.tup xs) .non st = .ok (.bl b) st := rfl
@[simp] theorem op_isN_lst {b : Bool} {xs : List D} : isN b (.lst xs) .non st = .ok (.bl b) st := rfl
@[simp] theorem op_isN_ins {b : Bool} {k : String} {fs : List String} {xs : List D} : isN b (.ins k fs xs) .non st = .ok (.bl b) st := rfl
@[simp] theorem op_isB {b p q : Bool} : isB b (.bl p) (.bl q) st = .ok (.bl (if b then !decide (p = q) else decide (p = q))) st := rfl
@[simp] theorem tru_bl {b : Bool} : truD st (.bl b) = some b := rfl
@[simp] theorem tru_non : truD st .non = some false := rfl
@[simp] theorem tru_int {i : Int} : truD st (.int i) = some (i != 0) := rfl
@[simp] theorem sq_lst {xs : List D} : seqL st (.lst xs) = some xs := rfl
@[simp] theorem sq_ext {ns : List Int} : seqL st (.ext ns) = some (ns.map .int) := rfl
@[simp] theorem sq_ref {k : Nat} : seqL st (.ref k) = (match st[k]? with
  | some (.lst xs) => some xs
  | _ => none) := rfl
@[simp] theorem sq_tup {xs : List D} : seqL st (.tup xs) = none := rfl
@[simp] theorem sx_tup {xs : List D} : seqX st (.tup xs) = some xs := rfl
@[simp] theorem sx_lst {xs : List D} : seqX st (.lst xs) = some xs := rfl
@[simp] theorem sx_ref {k : Nat} : seqX st (.ref k) = (match st[k]? with
  | some (.lst xs) => some xs
  | _ => none) := by
  unfold seqX
  rw [sq_ref]
  split
  · rename_i h
    split at h
    · cases h
      rfl
    · cases h
  · rename_i h
    split at h
    · cases h
    · rfl
@[simp] theorem st_tup {xs : List D} : seqT (.tup xs) = some xs := rfl
@[simp] theorem len_lst {xs : List D} : lenD [.lst xs] st = .ok (.int xs.length) st := rfl
@[simp] theorem len_tup {xs : List D} : lenD [.tup xs] st = .ok (.int xs.length) st := rfl
@[simp] theorem len_ref {k : Nat} : lenD [.ref k] st = (match st[k]? with
  | some (.lst xs) => .ok (.int xs.length) st
  | _ => .bad) := by
  show (match seqL st (.ref k) with
    | some xs => Res.ok (D.int xs.length) st
    | none => .bad) = _
  rw [sq_ref]
  split
  · rename_i h
    split at h
    · cases h
      rfl
    · cases h
  · rename_i h
    split at h
    · cases h
    · rfl
@[simp] theorem int_int {i : Int} : intD [.int i] st = .ok (.int i) st := rfl
@[simp] theorem int_bl {b : Bool} : intD [.bl b] st = .ok (.int (if b then 1 else 0)) st := rfl
@[simp] theorem i1_int {g : Int → D} {i : Int} : i1 g [.int i] st = .ok (g i) st := rfl
@[simp] theorem i2f_int {g : Int → Int → D} {i j : Int} : i2f g [.int i, .int j] st = .ok (g i j) st := rfl
@[simp] theorem tup_lst {xs : List D} : tupD [.lst xs] st = .ok (.tup xs) st := rfl
@[simp] theorem tup_tup {xs : List D} : tupD [.tup xs] st = .ok (.tup xs) st := rfl
@[simp] theorem tup_ref {k : Nat} : tupD [.ref k] st = (match st[k]? with
  | some (.lst xs) => .ok (.tup xs) st
  | _ => .bad) := by
  show (match seqL st (.ref k) with
    | some xs => Res.ok (D.tup xs) st
    | none => .bad) = _
  rw [sq_ref]
  split
  · rename_i h
    split at h
    · cases h
      rfl
    · cases h
  · rename_i h
    split at h
    · cases h
    · rfl
@[simp] theorem list_x {lv : Bool} : listD lv [x] st = (match seqX st x with
  | some xs => mkL lv xs st
  | none => .bad) := rfl
@[simp] theorem ix_lst {xs : List D} {i : Int} : ixD (.lst xs) (.int i) st = (match atI xs i with
  | some d => .ok d st
  | none => .bad) := rfl
@[simp] theorem ix_tup {xs : List D} {i : Int} : ixD (.tup xs) (.int i) st = (match atI xs i with
  | some d => .ok d st
  | none => .bad) := rfl
@[simp] theorem ix_ref {k : Nat} {i : Int} : ixD (.ref k) (.int i) st = (match st[k]? with
  | some (.lst xs) => (match atI xs i with
    | some d => .ok d st
    | none => .bad)
  | _ => .bad) := by
  show (match seqL st (.ref k) with
    | some xs => (match atI xs i with
      | some d => Res.ok d st
      | none => .bad)
    | none => .bad) = _
  rw [sq_ref]
  split
  · rename_i h
    split at h
    · cases h
      rfl
    · cases h
  · rename_i h
    split at h
    · cases h
    · rfl
theorem at_nat {α : Type} {xs : List α} {k : Nat} : atI xs (k : Int) = xs[k]? := by
  unfold atI ixN
  rw [if_pos (Int.natCast_nonneg k)]
  by_cases h : k < xs.length
  · rw [if_pos (by omega)]
    rfl
  · rw [if_neg (by omega), List.getElem?_eq_none (Nat.le_of_not_lt h)]
    rfl
@[simp] theorem at_0 {α : Type} {xs : List α} : atI xs 0 = xs[0]? := at_nat (k := 0)
@[simp] theorem at_1 {α : Type} {xs : List α} : atI xs 1 = xs[1]? := at_nat (k := 1)
@[simp] theorem at_2 {α : Type} {xs : List α} : atI xs 2 = xs[2]? := at_nat (k := 2)
@[simp] theorem at_3 {α : Type} {xs : List α} : atI xs 3 = xs[3]? := at_nat (k := 3)
@[simp] theorem at_4 {α : Type} {xs : List α} : atI xs 4 = xs[4]? := at_nat (k := 4)
@[simp] theorem at_5 {α : Type} {xs : List α} : atI xs 5 = xs[5]? := at_nat (k := 5)
theorem at_pos {α : Type} {xs : List α} {i : Int} (h : 0 ≤ i) : atI xs i = xs[i.toNat]? := by
  have := at_nat (xs := xs) (k := i.toNat)
  rw [Int.toNat_of_nonneg h] at this
  exact this
theorem at_last {α : Type} {xs : List α} (h : xs ≠ []) : atI xs (-1) = some (xs.getLast h) := by
  have hl : 0 < xs.length := List.length_pos_iff.mpr h
  unfold atI ixN
  rw [if_neg (by omega), if_pos (by omega)]
  show xs[(-1 + (xs.length : Int)).toNat]? = _
  rw [show (-1 + (xs.length : Int)).toNat = xs.length - 1 by omega, List.getElem?_eq_getElem (by omega), List.getLast_eq_getElem]
/-! ### index stores -/
theorem ixN_nat {n k : Nat} (h : k < n) : ixN n (k : Int) = some k := by
  unfold ixN
  rw [if_pos (Int.natCast_nonneg k), if_pos (by omega)]
  rfl
@[simp] theorem ixN_0 {n : Nat} : ixN (n + 1) 0 = some 0 := ixN_nat (k := 0) (by omega)
@[simp] theorem ixN_1 {n : Nat} : ixN (n + 2) 1 = some 1 := ixN_nat (k := 1) (by omega)
@[simp] theorem ixN_2 {n : Nat} : ixN (n + 3) 2 = some 2 := ixN_nat (k := 2) (by omega)
@[simp] theorem ixN_3 {n : Nat} : ixN (n + 4) 3 = some 3 := ixN_nat (k := 3) (by omega)
@[simp] theorem ixN_4 {n : Nat} : ixN (n + 5) 4 = some 4 := ixN_nat (k := 4) (by omega)
@[simp] theorem ixN_5 {n : Nat} : ixN (n + 6) 5 = some 5 := ixN_nat (k := 5) (by omega)
@[simp] theorem setL_ref {n : Nat} {i : Int} : setL (.ref n) (.int i) z st = (match st[n]? with
  | some (.lst xs) => (match ixN xs.length i with
    | some j => some (st.set n (.lst (xs.set j z)))
    | none => none)
  | _ => none) := rfl
@[simp] theorem live_ref {n : Nat} : liveL st (.ref n) = (match st[n]? with
  | some (.lst xs) => some (n, xs)
  | _ => none) := rfl
theorem app_ref {n : Nat} {xs : List D} (h : st[n]? = some (.lst xs)) (hz : xs.length < sizeLine) : appendD (.ref n) [y] st = .ok .non (st.set n (.lst (xs ++ [y]))) := by
  unfold appendD
  have e : liveL st (.ref n) = some (n, xs) := by rw [live_ref, h]
  rw [e]
  show (if Ok (xs.length < sizeLine) then Res.ok D.non (setO st n (xs ++ [y])) else .bad) = _
  rw [if_pos (show Ok _ from hz)]
  rfl
@[simp] theorem ins_ins {k : String} {fs : List String} {xs : List D} : insD st (.ins k fs xs) = some (k, fs, xs) := rfl
@[simp] theorem ins_ref {n : Nat} : insD st (.ref n) = (match st[n]? with
  | some (.ins k fs xs) => some (k, fs, xs)
  | _ => none) := rfl
@[simp] theorem src_tup {xs : List D} : srcD (.tup xs) st = .ok (.fz xs) st := rfl
@[simp] theorem src_lst {xs : List D} : srcD (.lst xs) st = .ok (.fz xs) st := rfl
@[simp] theorem src_ext {ns : List Int} : srcD (.ext ns) st = .ok (.fz (ns.map .int)) st := rfl
@[simp] theorem src_ref {k : Nat} : srcD (.ref k) st = (match st[k]? with
  | some (.lst xs) => .ok (.lv k xs.length) st
  | _ => .bad) := rfl
@[simp] theorem fz_rd {ds : List D} {i : Nat} {s : Sto} : (Src.fz ds).rd i s = some ds[i]? := rfl
@[simp] theorem fz_n {ds : List D} : (Src.fz ds).n = ds.length := rfl
end
/-! ### no refs -/
mutual
def pd : D → Bool
  | .tup xs => pds xs
  | .lst xs => pds xs
  | .ref _ => false
  | .ins _ _ xs => pds xs
  | .dK _ xs => pds xs
  | .dT _ xs => pds xs
  | _ => true
def pds : List D → Bool
  | [] => true
  | x :: xs => pd x && pds xs
end
def pdo : SO → Bool
  | .lst xs => pds xs
  | .ins _ _ xs => pds xs
  | .dK _ xs => pds xs
  | .dT _ xs => pds xs
mutual
theorem frz_pd {fs : Nat → Option D} {n0 : Nat} : ∀ {d : D}, pd d = true → frzD fs n0 d = some d
  | .non, _ => rfl
  | .bl _, _ => rfl
  | .int _, _ => rfl
  | .str _, _ => rfl
  | .tup xs, h => by
    have e := frzs_pd (fs := fs) (n0 := n0) (show pds xs = true from h)
    show (frzDs fs n0 xs).map D.tup = _
    rw [e] <;> rfl
  | .lst xs, h => by
    have e := frzs_pd (fs := fs) (n0 := n0) (show pds xs = true from h)
    show (frzDs fs n0 xs).map D.lst = _
    rw [e] <;> rfl
  | .ref _, h => by cases h
  | .ins k f xs, h => by
    have e := frzs_pd (fs := fs) (n0 := n0) (show pds xs = true from h)
    show (frzDs fs n0 xs).map (D.ins k f) = _
    rw [e] <;> rfl
  | .dK ks xs, h => by
    have e := frzs_pd (fs := fs) (n0 := n0) (show pds xs = true from h)
    show (frzDs fs n0 xs).map (D.dK ks) = _
    rw [e] <;> rfl
  | .dT ks xs, h => by
    have e := frzs_pd (fs := fs) (n0 := n0) (show pds xs = true from h)
    show (frzDs fs n0 xs).map (D.dT ks) = _
    rw [e] <;> rfl
  | .glo _, _ => rfl
  | .ty _, _ => rfl
  | .ext _, _ => rfl
  | .exc _ _ _, _ => rfl
theorem frzs_pd {fs : Nat → Option D} {n0 : Nat} : ∀ {ds : List D}, pds ds = true → frzDs fs n0 ds = some ds
  | [], _ => rfl
  | x :: xs, h => by
    have h2 : (pd x && pds xs) = true := h
    obtain ⟨h3, h4⟩ := Bool.and_eq_true_iff.mp h2
    show (match frzD fs n0 x, frzDs fs n0 xs with
      | some d, some ds => some (d :: ds)
      | _, _ => none) = _
    rw [frz_pd h3, frzs_pd h4]
end
theorem frzSO_pd {fs : Nat → Option D} {n0 : Nat} {o : SO} (h : pdo o = true) : frzSO fs n0 o = some o := by
  cases o with
  | lst xs =>
    show (frzDs fs n0 xs).map SO.lst = _
    rw [frzs_pd (show pds xs = true from h)] <;> rfl
  | ins k f xs =>
    show (frzDs fs n0 xs).map (SO.ins k f) = _
    rw [frzs_pd (show pds xs = true from h)] <;> rfl
  | dK ks xs =>
    show (frzDs fs n0 xs).map (SO.dK ks) = _
    rw [frzs_pd (show pds xs = true from h)] <;> rfl
  | dT ks xs =>
    show (frzDs fs n0 xs).map (SO.dT ks) = _
    rw [frzs_pd (show pds xs = true from h)] <;> rfl
theorem mrg_same {fs : Nat → Option D} {n0 : Nat} : ∀ (r ex : Sto), mrg fs n0 r (r ++ ex) = some r
  | [], _ => rfl
  | o :: r, ex => by
    show (match mrg1 fs n0 o o, mrg fs n0 r (r ++ ex) with
      | some a, some b => some (a :: b)
      | _, _ => none) = _
    rw [mrg_same r ex]
    unfold mrg1
    rw [if_pos rfl]
theorem mrg_bag {fs : Nat → Option D} {n0 : Nat} {b b' : SO} (h : pdo b' = true) (r ex : Sto) : mrg fs n0 (b :: r) (b' :: (r ++ ex)) = some (b' :: r) := by
  show (match mrg1 fs n0 b b', mrg fs n0 r (r ++ ex) with
    | some a, some b => some (a :: b)
    | _, _ => none) = _
  rw [mrg_same r ex]
  unfold mrg1
  by_cases e : b' = b
  · rw [if_pos e, e]
  · rw [if_neg e, frzSO_pd h]
/-- the bag alone changed -/
theorem fin_bag {b b' : SO} {d : D} {r ex : Sto} (hb : pdo b' = true) (hd : pd d = true) : fin (b :: r) d (b' :: (r ++ ex)) = .ok d (b' :: r) := by
  unfold fin
  rw [frz_pd hd, mrg_bag hb]
theorem fin_bag0 {b b' : SO} {d : D} {r : Sto} (hb : pdo b' = true) (hd : pd d = true) : fin (b :: r) d (b' :: r) = .ok d (b' :: r) := by
  have := fin_bag (b := b) (ex := []) (r := r) hb hd
  rw [List.append_nil] at this
  exact this
theorem fin_none {d : D} {r ex : Sto} (hd : pd d = true) : fin r d (r ++ ex) = .ok d r := by
  unfold fin
  rw [frz_pd hd, mrg_same]
theorem fin_none0 {d : D} {r : Sto} (hd : pd d = true) : fin r d r = .ok d r := by
  have := fin_none (ex := []) (r := r) hd
  rw [List.append_nil] at this
  exact this
theorem frz_new {xs : List D} {r ex : Sto} {j : Nat} (h : ex[j]? = some (.lst xs)) (hx : pds xs = true) : frzD (frzA (r ++ ex) r.length none) r.length (.ref (r.length + j)) = some (.lst xs) := by
  show (if r.length + j < r.length then some (D.ref (r.length + j)) else frzA (r ++ ex) r.length none (r.length + j - r.length)) = _
  rw [if_neg (by omega), show r.length + j - r.length = j by omega]
  show (if (none : Option Nat) = some (r.length + j) then none else ((r ++ ex)[r.length + j]?).bind (frzO (frzI (r ++ ex) r.length none 2) r.length)) = _
  rw [if_neg (by simp), List.getElem?_append_right (by omega), show r.length + j - r.length = j by omega, h]
  show (frzDs _ _ xs).map D.lst = _
  rw [frzs_pd hx] <;> rfl
/-- a list made here is handed back -/
theorem fin_new {xs : List D} {r ex : Sto} {j : Nat} (h : ex[j]? = some (.lst xs)) (hx : pds xs = true) : fin r (.ref (r.length + j)) (r ++ ex) = .ok (.lst xs) r := by
  unfold fin
  rw [frz_new h hx, mrg_same]
theorem fin_bag_new {b b' : SO} {xs : List D} {r ex : Sto} {j : Nat} (hb : pdo b' = true) (h : ex[j]? = some (.lst xs)) (hx : pds xs = true) : fin (b :: r) (.ref (r.length + 1 + j)) (b' :: (r ++ ex)) = .ok (.lst xs) (b' :: r) := by
  unfold fin
  have e := frz_new (r := b' :: r) (ex := ex) (j := j) h hx
  have e2 : frzD (frzA (b' :: (r ++ ex)) (b :: r).length none) (b :: r).length (.ref (r.length + 1 + j)) = some (.lst xs) := e
  rw [e2, mrg_bag hb]
@[simp] theorem end_rt_f {st s : Sto} {d : D} : fnEnd false st (.rt d s) = fin st d s := rfl
@[simp] theorem end_rt_t {st s : Sto} {d : D} : fnEnd true st (.rt d s) = finL st d s := rfl
@[simp] theorem end_nx {lv : Bool} {st s : Sto} {e : Env} : fnEnd lv st (.nx e s) = fin st .non s := rfl
/-! ### loops -/
/-- a loop over data: an invariant by the turn -/
theorem loop_inv {ds : List D} {g : GD} {body : MS} (P : Nat → Env → Sto → Prop) (step : ∀ (i : Nat) (d : D) (env : Env) (st : Sto), ds[i]? = some d → P i env st → ∃ e1, g d env = some e1 ∧ ∃ e2 s2, (body e1 st = .nx e2 s2 ∨ body e1 st = .ct e2 s2) ∧ P (i + 1) e2 s2) :
    ∀ (n i : Nat) (env : Env) (st : Sto), n + i = ds.length → P i env st → ∃ e2 s2, loopR (Src.fz ds).rd g body n i env st = .nx e2 s2 ∧ P ds.length e2 s2
  | 0, i, env, st, e, p => by
    have e' : i = ds.length := by omega
    subst e'
    refine ⟨env, st, ?_, p⟩
    unfold loopR
    rw [fz_rd, List.getElem?_eq_none (Nat.le_refl _)]
  | n + 1, i, env, st, e, p => by
    have hl : i < ds.length := by omega
    have hd : ds[i]? = some ds[i] := List.getElem?_eq_getElem hl
    obtain ⟨e1, hg, e2, s2, hb, p2⟩ := step i _ env st hd p
    obtain ⟨e3, s3, h3, p3⟩ := loop_inv P step n (i + 1) e2 s2 (by omega) p2
    refine ⟨e3, s3, ?_, p3⟩
    unfold loopR
    rw [fz_rd, hd]
    dsimp only
    rw [hg]
    rcases hb with hb | hb
    · dsimp only
      rw [hb]
      exact h3
    · dsimp only
      rw [hb]
      exact h3
/-- .. that may leave by return: R tells of what is returned -/
theorem loop_ret {ds : List D} {g : GD} {body : MS} (P : Nat → Env → Sto → Prop) (R : D → Sto → Prop)
    (step : ∀ (i : Nat) (d : D) (env : Env) (st : Sto), ds[i]? = some d → P i env st → ∃ e1, g d env = some e1 ∧ ((∃ e2 s2, (body e1 st = .nx e2 s2 ∨ body e1 st = .ct e2 s2) ∧ P (i + 1) e2 s2) ∨ ∃ r s2, body e1 st = .rt r s2 ∧ R r s2)) :
    ∀ (n i : Nat) (env : Env) (st : Sto), n + i = ds.length → P i env st → (∃ e2 s2, loopR (Src.fz ds).rd g body n i env st = .nx e2 s2 ∧ P ds.length e2 s2) ∨ ∃ r s2, loopR (Src.fz ds).rd g body n i env st = .rt r s2 ∧ R r s2
  | 0, i, env, st, e, p => by
    have e' : i = ds.length := by omega
    subst e'
    refine .inl ⟨env, st, ?_, p⟩
    unfold loopR
    rw [fz_rd, List.getElem?_eq_none (Nat.le_refl _)]
  | n + 1, i, env, st, e, p => by
    have hl : i < ds.length := by omega
    have hd : ds[i]? = some ds[i] := List.getElem?_eq_getElem hl
    obtain ⟨e1, hg, hs⟩ := step i _ env st hd p
    rcases hs with ⟨e2, s2, hb, p2⟩ | ⟨r, s2, hb, p2⟩
    · have ih := loop_ret P R step n (i + 1) e2 s2 (by omega) p2
      have eq : loopR (Src.fz ds).rd g body (n + 1) i env st = loopR (Src.fz ds).rd g body n (i + 1) e2 s2 := by
        conv => lhs; unfold loopR
        rw [fz_rd, hd]
        dsimp only
        rw [hg]
        rcases hb with hb | hb
        · dsimp only
          rw [hb]
        · dsimp only
          rw [hb]
      rw [eq]
      exact ih
    · refine .inr ⟨r, s2, ?_, p2⟩
      unfold loopR
      rw [fz_rd, hd]
      dsimp only
      rw [hg]
      dsimp only
      rw [hb]
/-- a comprehension over data, without tests: its values one by one -/
theorem comp_inv {ds : List D} {g : GD} {t : M Bool} {me : M D} {env : Env} (P : Nat → List D → Sto → Prop)
    (step : ∀ (i : Nat) (d : D) (acc : List D) (st : Sto), ds[i]? = some d → P i acc st → ∃ e1, g d env = some e1 ∧ ((∃ s1 y s2, t e1 st = .ok true s1 ∧ me e1 s1 = .ok y s2 ∧ acc.length < sizeLine ∧ P (i + 1) (acc ++ [y]) s2) ∨ ∃ s1, t e1 st = .ok false s1 ∧ P (i + 1) acc s1)) :
    ∀ (n i : Nat) (acc : List D) (st : Sto), n + i = ds.length → P i acc st → ∃ acc2 s2, compR (Src.fz ds).rd g t me env n i acc st = .ok acc2 s2 ∧ P ds.length acc2 s2
  | 0, i, acc, st, e, p => by
    have e' : i = ds.length := by omega
    subst e'
    refine ⟨acc, st, ?_, p⟩
    unfold compR
    rw [fz_rd, List.getElem?_eq_none (Nat.le_refl _)]
  | n + 1, i, acc, st, e, p => by
    have hl : i < ds.length := by omega
    have hd : ds[i]? = some ds[i] := List.getElem?_eq_getElem hl
    obtain ⟨e1, hg, hs⟩ := step i _ acc st hd p
    rcases hs with ⟨s1, y, s2, ht, hm, hz, p2⟩ | ⟨s1, ht, p2⟩
    · obtain ⟨a3, s3, h3, p3⟩ := comp_inv P step n (i + 1) _ s2 (by omega) p2
      refine ⟨a3, s3, ?_, p3⟩
      unfold compR
      rw [fz_rd, hd]
      dsimp only
      rw [hg]
      dsimp only
      rw [ht]
      show (if true = true then (noX (me e1 s1)).bind fun y s2 => if Ok (acc.length < sizeLine) then compR (Src.fz ds).rd g t me env n (i + 1) (acc ++ [y]) s2 else .bad else compR (Src.fz ds).rd g t me env n (i + 1) acc s1) = _
      rw [if_pos rfl, hm]
      show (if Ok (acc.length < sizeLine) then compR (Src.fz ds).rd g t me env n (i + 1) (acc ++ [y]) s2 else .bad) = _
      rw [if_pos (show Ok _ from hz)]
      exact h3
    · obtain ⟨a3, s3, h3, p3⟩ := comp_inv P step n (i + 1) _ s1 (by omega) p2
      refine ⟨a3, s3, ?_, p3⟩
      unfold compR
      rw [fz_rd, hd]
      dsimp only
      rw [hg]
      dsimp only
      rw [ht]
      show (if false = true then (noX (me e1 s1)).bind fun y s2 => if Ok (acc.length < sizeLine) then compR (Src.fz ds).rd g t me env n (i + 1) (acc ++ [y]) s2 else .bad else compR (Src.fz ds).rd g t me env n (i + 1) acc s1) = _
      rw [if_neg Bool.false_ne_true]
      exact h3
end ND
end
namespace ND
open PySem L2
theorem eq_gen {neg : Bool} {x y : D} {st : Sto} {p q : PyData} (h1 : pyD st x = some p) (h2 : pyD st y = some q) (h3 : min p.depth q.depth ≤ 60) : eqD neg x y st = .ok (.bl (if neg = true then !PyData.eqv p q else PyData.eqv p q)) st := by
  unfold eqD
  rw [h1, h2]
  show (if Ok (min p.depth q.depth ≤ 60) then Res.ok (D.bl (if neg = true then !PyData.eqv p q else PyData.eqv p q)) st else .bad) = _
  rw [if_pos (show Ok _ from h3)]
@[simp] theorem eq_int {neg : Bool} {i j : Int} {st : Sto} : eqD neg (.int i) (.int j) st = .ok (.bl (if neg then !decide (i = j) else decide (i = j))) st := by
  have e : (i == j) = decide (i = j) := by
    by_cases h : i = j
    · rw [decide_eq_true h]
      exact beq_iff_eq.mpr h
    · rw [decide_eq_false h]
      exact beq_eq_false_iff_ne.mpr h
  have e2 : PyData.eqv (.int i) (.int j) = decide (i = j) := by
    unfold PyData.eqv
    exact e
  rw [eq_gen (p := .int i) (q := .int j) rfl rfl (by unfold PyData.depth; simp), e2]
@[simp] theorem eq_bl {neg : Bool} {i j : Bool} {st : Sto} : eqD neg (.bl i) (.bl j) st = .ok (.bl (if neg then !decide (i = j) else decide (i = j))) st := by
  rw [eq_gen (p := .bool i) (q := .bool j) rfl rfl (by unfold PyData.depth; simp)]
  cases i <;> cases j <;> cases neg <;> rfl
/-! ### the bag -/
/-- the bag's state after at most k draws -/
structure BagOk (b : SO) (k : Nat) : Prop where
  ex : ∃ (cells : List Int) (p : Nat) (big seed turn left : Int), b = .lst [.lst (cells.map .int), .int p, .int big, .int seed, .int turn, .int left] ∧ (∀ c ∈ cells, 0 ≤ c) ∧ 0 ≤ big ∧ 0 ≤ seed ∧ seed < 1000000007 ∧ 0 ≤ turn ∧ turn ≤ k
theorem pds_ints : ∀ ns : List Int, pds (ns.map .int) = true
  | [] => rfl
  | x :: xs => by
    show (pd (.int x) && pds (xs.map .int)) = true
    rw [pds_ints xs] <;> rfl
theorem BagOk.pd {b : SO} {k : Nat} (h : BagOk b k) : pdo b = true := by
  obtain ⟨cells, p, big, seed, turn, left, rfl, _⟩ := h.ex
  show (ND.pd (.lst (cells.map .int)) && _) = true
  have : ND.pd (.lst (cells.map .int)) = true := pds_ints cells
  rw [this]
  rfl
theorem BagOk.mono {b : SO} {k j : Nat} (h : BagOk b k) (hj : k ≤ j) : BagOk b j := by
  obtain ⟨cells, p, big, seed, turn, left, e, h1, h2, h3, h4, h5, h6⟩ := h.ex
  exact ⟨cells, p, big, seed, turn, left, e, h1, h2, h3, h4, h5, by omega⟩
theorem log_lt {i : Int} {n : Nat} (h0 : 0 ≤ i) (h : i < 2 ^ n) (hn : 0 < n) : i.natAbs.log2 < n := by
  by_cases z : i.natAbs = 0
  · rw [z]
    exact hn
  · refine (Nat.log2_lt z).mpr ?_
    have : (i.natAbs : Int) = i := Int.natAbs_of_nonneg h0
    have h2 : ((i.natAbs : Nat) : Int) < ((2 ^ n : Nat) : Int) := by
      rw [this]
      push_cast
      exact h
    exact_mod_cast h2
theorem op_mulS {i j : Int} {st : Sto} (h1 : 0 ≤ i) (h2 : i < 2 ^ 60) (h3 : 0 ≤ j) (h4 : j < 2 ^ 60) : mulI (.int i) (.int j) st = .ok (.int (i * j)) st := op_mulI (by
  have a := log_lt h1 h2 (by decide)
  have b := log_lt h3 h4 (by decide)
  omega)
theorem op_divS {i j : Int} {st : Sto} (h1 : 0 < j) (h2 : j < 2 ^ 60) : divI (.int i) (.int j) st = .ok (.int (i / j)) st := op_divI h1 (by
  have b := log_lt (n := 60) (by omega) h2 (by decide)
  omega)
/-! ### pure comprehensions -/
theorem comp_pure {g : GD} {t : M Bool} {me : M D} {env : Env} {st : Sto} (f : D → D) (p : D → Bool) {all : List D} (h : ∀ d ∈ all, ∃ e1, g d env = some e1 ∧ t e1 st = .ok (p d) st ∧ (p d = true → me e1 st = .ok (f d) st)) :
    ∀ (n i : Nat) (acc : List D), n + i = all.length → acc.length + n ≤ sizeLine → compR (Src.fz all).rd g t me env n i acc st = .ok (acc ++ ((all.drop i).filter p).map f) st
  | 0, i, acc, e, _ => by
    have e' : i = all.length := by omega
    subst e'
    unfold compR
    rw [fz_rd, List.getElem?_eq_none (Nat.le_refl _), List.drop_length, List.filter_nil, List.map_nil, List.append_nil]
  | n + 1, i, acc, e, hz => by
    have hl : i < all.length := by omega
    have hd : all[i]? = some all[i] := List.getElem?_eq_getElem hl
    obtain ⟨e1, hg, ht, hm⟩ := h _ (List.getElem_mem hl)
    unfold compR
    rw [fz_rd, hd]
    dsimp only
    rw [hg]
    dsimp only
    rw [ht, List.drop_eq_getElem_cons hl]
    cases hp : p all[i] with
    | true =>
      rw [List.filter_cons_of_pos hp]
      show (if true = true then (noX (me e1 st)).bind fun y s2 => if Ok (acc.length < sizeLine) then compR (Src.fz all).rd g t me env n (i + 1) (acc ++ [y]) s2 else .bad else compR (Src.fz all).rd g t me env n (i + 1) acc st) = _
      rw [if_pos rfl, hm hp]
      show (if Ok (acc.length < sizeLine) then compR (Src.fz all).rd g t me env n (i + 1) (acc ++ [f all[i]]) st else .bad) = _
      rw [if_pos (show Ok (acc.length < sizeLine) from (by omega : acc.length < sizeLine)), comp_pure f p h n (i + 1) _ (by omega) (by rw [List.length_append]; show acc.length + 1 + n ≤ _; omega), List.map_cons, List.append_assoc]
      rfl
    | false =>
      rw [List.filter_cons_of_neg (by rw [hp]; exact Bool.false_ne_true)]
      show (if false = true then (noX (me e1 st)).bind fun y s2 => if Ok (acc.length < sizeLine) then compR (Src.fz all).rd g t me env n (i + 1) (acc ++ [y]) s2 else .bad else compR (Src.fz all).rd g t me env n (i + 1) acc st) = _
      rw [if_neg Bool.false_ne_true, comp_pure f p h n (i + 1) acc (by omega) (by omega)]
theorem comp_map {g : GD} {me : M D} {env : Env} {st : Sto} (f : D → D) {all : List D} (h : ∀ d ∈ all, ∃ e1, g d env = some e1 ∧ me e1 st = .ok (f d) st) (hz : all.length ≤ sizeLine) :
    compR (Src.fz all).rd g bYes me env all.length 0 [] st = .ok (all.map f) st := by
  have := comp_pure (t := bYes) (me := me) (st := st) f (fun _ => true) (all := all) (fun d hd => by
    obtain ⟨e1, h1, h2⟩ := h d hd
    exact ⟨e1, h1, rfl, fun _ => h2⟩) all.length 0 [] (by omega) (by simpa using hz)
  rw [this, List.drop_zero, List.nil_append, List.filter_eq_self.mpr (fun _ _ => rfl)]
theorem comp_filter {g : GD} {t : M Bool} {me : M D} {env : Env} {st : Sto} (f : D → D) (p : D → Bool) {all : List D} (h : ∀ d ∈ all, ∃ e1, g d env = some e1 ∧ t e1 st = .ok (p d) st ∧ (p d = true → me e1 st = .ok (f d) st)) (hz : all.length ≤ sizeLine) :
    compR (Src.fz all).rd g t me env all.length 0 [] st = .ok ((all.filter p).map f) st := by
  have := comp_pure (t := t) (me := me) (st := st) f p (all := all) h all.length 0 [] (by omega) (by simpa using hz)
  rw [this]
  simp
/-- a list handed back live -/
theorem finL_new {xs : List D} {r : Sto} (hx : pds xs = true) : finL r (.ref r.length) (r ++ [.lst xs]) = .ok (.ref r.length) (r ++ [.lst xs]) := by
  unfold finL
  dsimp only
  rw [if_neg (Nat.lt_irrefl _), List.getElem?_append_right (Nat.le_refl _), Nat.sub_self]
  show (match frzSO _ _ (.lst xs), mrg _ _ r (r ++ [SO.lst xs]) with
    | some o', some st' => Res.ok (D.ref r.length) (st' ++ [o'])
    | _, _ => .bad) = _
  rw [frzSO_pd (o := .lst xs) hx, mrg_same]
theorem range_get {lo : Int} {n i : Nat} {d : D} (h : (rangeD lo n)[i]? = some d) : d = .int (lo + i) ∧ i < n := by
  unfold rangeD at h
  rw [List.getElem?_map] at h
  by_cases hi : i < n
  · rw [List.getElem?_range hi] at h
    cases h
    exact ⟨rfl, hi⟩
  · rw [List.getElem?_eq_none (by simpa using Nat.le_of_not_lt hi)] at h
    cases h
@[simp] theorem range_len {lo : Int} {n : Nat} : (rangeD lo n).length = n := by
  unfold rangeD
  simp
theorem sorted_ints {lv : Bool} {ns : List Int} {st : Sto} (h : ns.length < 64) : sortedD lv [.lst (ns.map .int)] st = mkL lv ((sortI ns).map .int) st := by
  unfold sortedD
  simp [allInts_map, h]
theorem sort2 (a b : Int) : sortI [a, b] = if a ≤ b then [a, b] else [b, a] := by
  refine (sortI_same (ms := if a ≤ b then [a, b] else [b, a]) ?_ ?_).symm
  · split
    · exact .refl _
    · exact List.Perm.swap _ _ _
  · split
    · simp
      assumption
    · simp
      omega
@[simp] theorem get_last {r : Sto} {x : SO} : (r ++ [x])[r.length]? = some x := by
  rw [List.getElem?_append_right (Nat.le_refl _), Nat.sub_self]
  rfl
@[simp] theorem set_last {r : Sto} {x y : SO} : (r ++ [x]).set r.length y = r ++ [y] := by
  rw [List.set_append_right _ _ (Nat.le_refl _), Nat.sub_self]
  rfl
theorem app_last {b : SO} {r : Sto} {xs : List D} {y : D} (hz : xs.length < 16777216) : appendD (.ref (r.length + 1)) [y] (b :: (r ++ [.lst xs])) = .ok .non (b :: (r ++ [.lst (xs ++ [y])])) := by
  rw [app_ref (xs := xs) (by simp) (by rw [sizeLine_eq]; exact hz)]
  simp
theorem app_last0 {r : Sto} {xs : List D} {y : D} (hz : xs.length < 16777216) : appendD (.ref r.length) [y] (r ++ [.lst xs]) = .ok .non (r ++ [.lst (xs ++ [y])]) := by
  rw [app_ref (xs := xs) (by simp) (by rw [sizeLine_eq]; exact hz)]
  simp
/-- for k in range(n), n in a slot -/
theorem rng1_nat {n : Nat} {st : Sto} (h : n ≤ 100000) : rng1 (n : Int) st = .ok (.fz (rangeD 0 n)) st := by
  rw [rng1_ok (by omega) (by omega), Int.toNat_natCast]
theorem for_rng {i n : Nat} {g : GD} {body : MS} {env e2 : Env} {st s2 : Sto} (hv : env[i]? = some (some (.int n))) (hn : n ≤ 100000) (h : loopR (Src.fz (rangeD 0 n)).rd g body n 0 env st = .nx e2 s2) : sFor (iR1 (eVar i)) g body env st = .nx e2 s2 := by
  have e : iR1 (eVar i) env st = .ok (.fz (rangeD 0 n)) st := by
    rw [ev_iR1, ev_eVar, hv]
    show rng1 (n : Int) st = _
    exact rng1_nat hn
  rw [ev_sFor, e, toS_ok, fz_n, range_len]
  exact h
/-- an object's own init -/
theorem fin_obj {r : Sto} {o o' : SO} (h : pdo o' = true) : fin (r ++ [o]) .non (r ++ [o']) = .ok .non (r ++ [o']) := by
  unfold fin
  have e : mrg (frzA (r ++ [o']) (r ++ [o]).length none) (r ++ [o]).length (r ++ [o]) (r ++ [o']) = some (r ++ [o']) := by
    generalize frzA (r ++ [o']) (r ++ [o]).length none = fs
    generalize (r ++ [o]).length = n0
    induction r with
    | nil =>
      show (match mrg1 fs n0 o o', mrg fs n0 [] [] with
        | some a, some b => some (a :: b)
        | _, _ => none) = _
      unfold mrg1
      by_cases e : o' = o
      · rw [if_pos e, e]
        rfl
      · rw [if_neg e, frzSO_pd h]
        rfl
    | cons a r ih =>
      show (match mrg1 fs n0 a a, mrg fs n0 (r ++ [o]) (r ++ [o']) with
        | some a, some b => some (a :: b)
        | _, _ => none) = _
      rw [ih]
      unfold mrg1
      rw [if_pos rfl]
      rfl
  rw [e]
  rfl
/-- an instance made here is handed back -/
theorem fin_ins {r : Sto} {k : String} {fs : List String} {xs : List D} (hx : pds xs = true) : fin r (.ref r.length) (r ++ [.ins k fs xs]) = .ok (.ins k fs xs) r := by
  unfold fin
  have e : frzD (frzA (r ++ [.ins k fs xs]) r.length none) r.length (.ref r.length) = some (.ins k fs xs) := by
    show (if r.length < r.length then some (D.ref r.length) else frzA (r ++ [.ins k fs xs]) r.length none (r.length - r.length)) = _
    rw [if_neg (by omega), Nat.sub_self]
    show (if (none : Option Nat) = some (r.length + 0) then none else ((r ++ [SO.ins k fs xs])[r.length + 0]?).bind (frzO (frzI (r ++ [.ins k fs xs]) r.length none 2) r.length)) = _
    rw [if_neg (by simp), Nat.add_zero, get_last]
    show (frzDs _ _ xs).map (D.ins k fs) = _
    rw [frzs_pd hx] <;> rfl
  rw [e, mrg_same]
theorem for_fz {mi : M Src} {g : GD} {body : MS} {env e2 : Env} {st s1 s2 : Sto} {ds : List D} (h1 : mi env st = .ok (.fz ds) s1) (h2 : loopR (Src.fz ds).rd g body ds.length 0 env s1 = .nx e2 s2) : sFor mi g body env st = .nx e2 s2 := by
  rw [ev_sFor, h1, toS_ok, fz_n]
  exact h2
theorem for_fzr {mi : M Src} {g : GD} {body : MS} {env : Env} {st s1 s2 : Sto} {ds : List D} {d : D} (h1 : mi env st = .ok (.fz ds) s1) (h2 : loopR (Src.fz ds).rd g body ds.length 0 env s1 = .rt d s2) : sFor mi g body env st = .rt d s2 := by
  rw [ev_sFor, h1, toS_ok, fz_n]
  exact h2
@[simp] theorem get_two0 {r : Sto} {x y : SO} : (r ++ [x, y])[r.length]? = some x := by
  rw [List.getElem?_append_right (Nat.le_refl _), Nat.sub_self]
  rfl
@[simp] theorem get_two1 {r : Sto} {x y : SO} : (r ++ [x, y])[r.length + 1]? = some y := by
  rw [List.getElem?_append_right (by omega), show r.length + 1 - r.length = 1 by omega]
  rfl
@[simp] theorem set_two0 {r : Sto} {x y z : SO} : (r ++ [x, y]).set r.length z = r ++ [z, y] := by
  rw [List.set_append_right _ _ (Nat.le_refl _), Nat.sub_self]
  rfl
@[simp] theorem set_two1 {r : Sto} {x y z : SO} : (r ++ [x, y]).set (r.length + 1) z = r ++ [x, z] := by
  rw [List.set_append_right _ _ (by omega), show r.length + 1 - r.length = 1 by omega]
  rfl
theorem dget_T {st : Sto} {n : Nat} {ks : List (List Key)} {xs ys : List D} {k : List Key} (h : st[n]? = some (.dT ks xs)) (hk : keysOf ys = some k) : dgetO (.ref n) (.tup ys) st = some (dval ks xs k) := by
  unfold dgetO
  have e1 : asdK st (.ref n) = none := by
    show (match st[n]? with
      | some (.dK ks xs) => some (ks, xs)
      | _ => none) = none
    rw [h]
  have e2 : asdT st (.ref n) = some (ks, xs) := by
    show (match st[n]? with
      | some (.dT ks xs) => some (ks, xs)
      | _ => none) = some (ks, xs)
    rw [h]
  rw [e1, e2]
  show (match keysOf ys with
    | some k => some (dval ks xs k)
    | none => none) = _
  rw [hk]
theorem dput_T {st : Sto} {n : Nat} {ks : List (List Key)} {xs ys : List D} {k : List Key} {z : D} (h : st[n]? = some (.dT ks xs)) (hk : keysOf ys = some k) (hz : xs.length < 16777216) (nd : ks.Nodup) : dputO (.ref n) (.tup ys) z st = some (st.set n (.dT (dkeys ks k) (dputs ks xs k z))) := by
  unfold dputO
  show (match st[n]? with
    | some (.dK ks xs) => _
    | some (.dT ks xs) => _
    | _ => none) = _
  rw [h]
  show (match keysOf ys with
    | some k => if Ok (xs.length < sizeLine ∧ ks.Nodup) then some (st.set n (.dT (dkeys ks k) (dputs ks xs k z))) else none
    | none => none) = _
  rw [hk]
  exact if_pos (show Ok _ from (⟨by rw [sizeLine_eq]; exact hz, nd⟩ : xs.length < sizeLine ∧ ks.Nodup))
theorem fin_bag_tup {b b' : SO} {d : D} {r : Sto} {ex : Sto} (hb : pdo b' = true) (hd : pd d = true) : fin (b :: r) d (b' :: (r ++ ex)) = .ok d (b' :: r) := fin_bag hb hd
/-- a loop that asks each turn and leaves with False -/
theorem loop_all {ds : List D} {g : GD} {body : MS} {st : Sto} (C : Nat → Env → Prop) (q : Nat → Bool)
    (step : ∀ (i : Nat) (d : D) (env : Env), ds[i]? = some d → C i env → ∃ e1, g d env = some e1 ∧ (q i = true → ∃ e2, body e1 st = .nx e2 st ∧ C (i + 1) e2) ∧ (q i = false → body e1 st = .rt (.bl false) st)) :
    ∀ (n i : Nat) (env : Env), n + i = ds.length → C i env → ((∀ j, i ≤ j → j < ds.length → q j = true) → ∃ e2, loopR (Src.fz ds).rd g body n i env st = .nx e2 st ∧ C ds.length e2) ∧ (¬ (∀ j, i ≤ j → j < ds.length → q j = true) → loopR (Src.fz ds).rd g body n i env st = .rt (.bl false) st)
  | 0, i, env, e, p => by
    have e' : i = ds.length := by omega
    subst e'
    have e1 : loopR (Src.fz ds).rd g body 0 ds.length env st = .nx env st := by
      unfold loopR
      rw [fz_rd, List.getElem?_eq_none (Nat.le_refl _)]
    exact ⟨fun _ => ⟨env, e1, p⟩, fun h => absurd (fun j h1 h2 => absurd h2 (by omega)) h⟩
  | n + 1, i, env, e, p => by
    have hl : i < ds.length := by omega
    have hd : ds[i]? = some ds[i] := List.getElem?_eq_getElem hl
    obtain ⟨e1, hg, ht, hf⟩ := step i _ env hd p
    cases hq : q i with
    | true =>
      obtain ⟨e2, hb, p2⟩ := ht hq
      have ih := loop_all C q step n (i + 1) e2 (by omega) p2
      have eq : loopR (Src.fz ds).rd g body (n + 1) i env st = loopR (Src.fz ds).rd g body n (i + 1) e2 st := by
        conv => lhs; unfold loopR
        rw [fz_rd, hd]
        dsimp only
        rw [hg]
        dsimp only
        rw [hb]
      rw [eq]
      have iff1 : (∀ j, i ≤ j → j < ds.length → q j = true) ↔ ∀ j, i + 1 ≤ j → j < ds.length → q j = true := ⟨fun h j h1 h2 => h j (by omega) h2, fun h j h1 h2 => by
        by_cases ej : i = j
        · rw [← ej]
          exact hq
        · exact h j (by omega) h2⟩
      rw [iff1]
      exact ih
    | false =>
      have eq : loopR (Src.fz ds).rd g body (n + 1) i env st = .rt (.bl false) st := by
        unfold loopR
        rw [fz_rd, hd]
        dsimp only
        rw [hg]
        dsimp only
        rw [hf hq]
      refine ⟨fun h => ?_, fun _ => eq⟩
      rw [h i (Nat.le_refl _) hl] at hq
      cases hq
/-- .. as a Bool -/
theorem loop_alls {ds : List D} {g : GD} {body : MS} {st : Sto} {env : Env} (C : Nat → Env → Prop) (q : Nat → Bool) (h0 : C 0 env)
    (step : ∀ (i : Nat) (d : D) (env : Env), ds[i]? = some d → C i env → ∃ e1, g d env = some e1 ∧ (q i = true → ∃ e2, body e1 st = .nx e2 st ∧ C (i + 1) e2) ∧ (q i = false → body e1 st = .rt (.bl false) st)) :
    ((List.range ds.length).all q = true → ∃ e2, loopR (Src.fz ds).rd g body ds.length 0 env st = .nx e2 st ∧ C ds.length e2) ∧ ((List.range ds.length).all q = false → loopR (Src.fz ds).rd g body ds.length 0 env st = .rt (.bl false) st) := by
  obtain ⟨h1, h2⟩ := loop_all C q step ds.length 0 env (by omega) h0
  refine ⟨fun h => h1 fun j _ hj => List.all_eq_true.mp h j (List.mem_range.mpr hj), fun h => h2 fun hh => ?_⟩
  have : (List.range ds.length).all q = true := List.all_eq_true.mpr fun j hj => hh j (Nat.zero_le _) (List.mem_range.mp hj)
  rw [this] at h
  cases h
@[simp] theorem ev_gTu2 {i j : Nat} {a b : D} {env : Env} : gTu 2 (gsCons (gNm i) (gsCons (gNm j) gsNil)) (.tup [a, b]) env = some ((env.set i (some a)).set j (some b)) := rfl
theorem enum_get {xs : List D} {i : Nat} {d : D} (h : (enumD 0 xs)[i]? = some d) : ∃ x, xs[i]? = some x ∧ d = .tup [.int (i : Int), x] := by
  rw [enumD_at] at h
  obtain ⟨x, hx, rfl⟩ := Option.map_eq_some_iff.mp h
  exact ⟨x, hx, by rw [Nat.zero_add]⟩
theorem mulL_ok {xs : List D} {k : Nat} {st : Sto} (h : xs.length * k ≤ 16777216) (hk : k ≤ 1000000) : mulL false (.lst xs) (.int (k : Int)) st = .ok (.lst (List.replicate k xs).flatten) st := by
  have h2 : Ok ((k : Int) < 2 ^ 63 ∧ -(2 ^ 63) ≤ (k : Int) ∧ xs.length * (k : Int).toNat ≤ sizeLine) := ⟨by omega, by omega, by rw [sizeLine_eq, Int.toNat_natCast]; exact h⟩
  show (if Ok ((k : Int) < 2 ^ 63 ∧ -(2 ^ 63) ≤ (k : Int) ∧ xs.length * (k : Int).toNat ≤ sizeLine) then mkL false (List.replicate (k : Int).toNat xs).flatten st else .bad) = _
  rw [if_pos h2, Int.toNat_natCast]
  rfl
theorem ext_last0 {r : Sto} {xs ys : List D} (hz : xs.length + ys.length ≤ 16777216) : extendD (.ref r.length) [.lst ys] (r ++ [.lst xs]) = .ok .non (r ++ [.lst (xs ++ ys)]) := by
  have e : liveL (r ++ [.lst xs]) (.ref r.length) = some (r.length, xs) := by rw [live_ref, get_last]
  have h2 : Ok (xs.length + ys.length ≤ sizeLine) := by
    show xs.length + ys.length ≤ sizeLine
    rw [sizeLine_eq]
    exact hz
  unfold extendD
  rw [e]
  show (if Ok (xs.length + ys.length ≤ sizeLine) then Res.ok D.non (setO (r ++ [.lst xs]) r.length (xs ++ ys)) else .bad) = _
  rw [if_pos h2]
  show Res.ok D.non ((r ++ [SO.lst xs]).set r.length (.lst (xs ++ ys))) = _
  rw [set_last]
theorem cut_nat {α : Type} {xs : List α} {a c : Nat} (h1 : a ≤ xs.length) (h2 : c ≤ xs.length) : cutD xs (some (a : Int)) (some (c : Int)) = (xs.drop a).take (c - a) := by
  unfold cutD
  rw [HT.sIx_nat, HT.sIx_nat, Nat.min_eq_left h1, Nat.min_eq_left h2]
theorem cut_to {α : Type} {xs : List α} {c : Nat} (h2 : c ≤ xs.length) : cutD xs none (some (c : Int)) = xs.take c := by
  unfold cutD
  rw [HT.sIx_nat, Nat.min_eq_left h2]
  rfl
theorem cut_from {α : Type} {xs : List α} {a : Nat} : cutD xs (some (a : Int)) none = xs.drop a := by
  unfold cutD
  rw [HT.sIx_nat]
  show (xs.drop (min a xs.length)).take (xs.length - min a xs.length) = xs.drop a
  by_cases h : a ≤ xs.length
  · rw [Nat.min_eq_left h, List.take_of_length_le (by rw [List.length_drop]; exact Nat.le_refl _)]
  · rw [Nat.min_eq_right (by omega), List.drop_of_length_le (Nat.le_refl _), List.drop_of_length_le (by omega), List.take_nil]
@[simp] theorem sl_lst {xs : List D} {lo hi : Option Int} {st : Sto} : slD (.lst xs) lo hi st = .ok (.lst (cutD xs lo hi)) st := rfl
theorem intsD_ok2 {g : List Int → Int} {ns : List Int} {st : Sto} (h : 0 < ns.length) : intsD g [.lst (ns.map .int)] st = .ok (.int (g ns)) st := by
  obtain ⟨n, ms, rfl⟩ := List.exists_cons_of_length_pos h
  show (match allInts ((n :: ms).map .int) with
    | some (n :: ns) => Res.ok (D.int (g (n :: ns))) st
    | _ => .bad) = _
  rw [allInts_map]
end ND
noncomputable section
namespace ND
open PySem L2 PyProof.Rows
section
variable {P : Program} {w : World} {A : Around} {E : Value → Shared → Prop} {s : Shared}
abbrev set0 (w : World) : Obj := { cls := .type "set", dict := none, data := .set #[] 0 (.fresh 0 0 (!w.params.followText "set-order")) }
theorem set_of_listI {x : Addr} {cells : Array Value} (ks : List Int) {Q : Value → Shared → Prop} (calm : A.handled = none) (at_ : s.heap.IsList x cells) (are : IntsAre cells.toList ks) (few : ks.length + 1 < scanBound)
    (k : ∀ (hp : Heap) (tk c : Nat), SetR w hp s.heap.objs.size (fun j => decide (j ∈ ks)) c → c ≤ ks.length → (∀ b o, s.heap.get? b = some o → hp.get? b = some o) → Q (.ref s.heap.objs.size) { s with heap := hp, toks := tk }) :
    wpAny (model P w) A (call (.type "set") [.ref x]) Q E s := by
  have sz : cells.size = ks.length := by have q := IntsAre.length are; rw [Array.length_toList] at q; exact q
  obtain ⟨cc, tail, mro⟩ := F.called_set.mro
  have q1 := F.called_set.made; have q2 := F.called_set.sub
  refine wpAny_call (codeAny_of_tree (?_ : wpAny _ _ (callAny (.type "set") _) _ _ _))
  refine wpAny_pure ⟨Code.quiet_builtin _ (by decide +kernel), codeAny_builtin F.entry_type_call ?_⟩; rw [Around.under_plain (weight_type_call_type "set" [.ref x] []) rfl]
  have q3 := F.called_set.notType; have q4 := F.called_set.canCreate
  have q5 := F.typeCall_set_1 (.ref x)
  repeat (any_goals (first | assumption | wp_step))
  refine codeAny_mono (code_set_led1 (.ref x) (E := E) (Q₁ := fun v t => v = .ref s.heap.objs.size ∧ t = { s with heap := s.heap.push (set0 w) }) ⟨rfl, rfl⟩) fun r t hr => ?_
  cases r with
  | error e => exact hr
  | ok fl =>
    cases fl with
    | ret v =>
      obtain ⟨rfl, rfl⟩ := hr
      have at0 : (s.heap.push (set0 w)).get? s.heap.objs.size = some (set0 w) := Heap.get?_push_size _ rfl
      have ty0 : Shared.TypeIs { s with heap := s.heap.push (set0 w) } (.ref s.heap.objs.size) "set" := ⟨_, at0, rfl⟩
      have li := F.called_set.init.lookup; have bi := F.called_set.init.bind (.ref s.heap.objs.size)
      repeat (any_goals (first | assumption | wp_step))
      refine codeAny_mono (codeAny_call_builtin (R := wants (fun r t => r = .none ∧ ∃ hp tk c, t = { s with heap := hp, toks := tk } ∧ SetR w hp s.heap.objs.size (fun j => decide (j ∈ ks)) c ∧ c ≤ ks.length ∧ (∀ b o, s.heap.get? b = some o → hp.get? b = some o)) E) F.called_set.init.plain F.entry_set_init (check_set_init_1 ty0 ?_)) fun r2 t2 hr2 => ?_
      · obtain ⟨ob, hob, hcls, nn, hdat⟩ := at_
        obtain ⟨o1, o2, o3, o4⟩ := ob
        simp only at hcls hdat
        subst hcls; subst hdat
        have ob1 : (s.heap.push (set0 w)).get? x = some { cls := .type "list", dict := o2, data := .seq cells nn, slots := o4 } := Heap.get?_push_of_some _ hob
        have s1 := F.sub_list_set; have s2 := F.sub_list_frozenset
        have s3 : (Value.type "list" == Value.type "dict") = false := by decide
        have ob2 : (s.heap.push (set0 w)).IsList x cells := ⟨_, ob1, rfl, nn, rfl⟩
        unfold Builtin.«set.__init__» noKeywords Builtin.Frozenset.updateFrom
        generalize hpi : pyIter = pi
        wp_walk
        subst hpi
        refine wpAny_pyIter_list ob2 (wpAny_bind (wpAny_runValue ?_))
        have xlt : x < s.heap.objs.size := Heap.lt_size hob
        have c3 : A.in1.in1.in1.handled = none := by simp [calm]
        have zz : (s.heap.push (set0 w)).objs.size = s.heap.objs.size + 1 := Heap.size_push ..
        have xne : x ≠ (s.heap.push (set0 w)).objs.size := by rw [zz]; exact Nat.ne_of_lt (Nat.lt_succ_of_lt xlt)
        have sne : s.heap.objs.size ∉ [(s.heap.push (set0 w)).objs.size, x] := by
          rw [zz]
          intro z
          rcases List.mem_cons.mp z with z | z
          · exact absurd z (Nat.ne_of_lt (Nat.lt_succ_self _))
          · exact absurd (List.mem_singleton.mp z) (Nat.ne_of_gt xlt)
        have val : ∀ (i : Nat) (v : Value), cells[i]? = some v → ∃ k t, ks[i]? = some k ∧ v = .int k t := fun i v hv => by
          have hi : i < ks.length := by rw [← sz]; exact (Array.getElem?_eq_some_iff.mp hv).1
          obtain ⟨t, e⟩ := IntsAre.int_at are i v (by rw [Array.getElem?_toList]; exact hv)
          exact ⟨ks[i], t, List.getElem?_eq_getElem hi, by rw [e, List.getD_eq_getElem?_getD, List.getElem?_eq_getElem hi] <;> rfl⟩
        refine set_update_ints ((Walks.list c3 _ x xne cells).toS) s.heap.objs.size sne ks sz few val (cells.size - 0) 0 _ (by omega) (Nat.zero_le _) ⟨⟨_, Heap.get?_push_size _ rfl, rfl, rfl⟩, (ob2.push _)⟩ ?st ?go
        case st =>
          have g0 : ((s.heap.push (set0 w)).push { cls := .type "list_iterator", data := .fields #[.ref x, .int 0 0] }).get? s.heap.objs.size = some (set0 w) := Heap.get?_push_of_some _ at0
          exact ⟨0, Nat.le_refl 0, setR_new_at g0⟩
        case go =>
          intro t c' mv hc' hS'
          obtain ⟨hp, g2, d2, tk2, os2⟩ := t
          have e1 : g2 = s.gens := mv.gens; have e2 : d2 = s.drawn := mv.drawn; have e3 : os2 = s.os := mv.os
          subst e1; subst e2; subst e3
          show wpAny _ _ _ _ _ _
          refine wpAny_pure (?_ : wpAny _ _ (ret Value.none) _ _ _)
          rw [sz] at hc'
          refine wpAny_pure ⟨rfl, hp, tk2, c', rfl, hS', hc', fun b o e => ?_⟩
          have b0 : b < s.heap.objs.size := Heap.lt_size e
          have b1 : b ≠ s.heap.objs.size := Nat.ne_of_lt b0
          have b2 : b ≠ (s.heap.push (set0 w)).objs.size := by rw [zz]; exact Nat.ne_of_lt (Nat.lt_succ_of_lt b0)
          exact mv.heap b o (by simp only [List.mem_cons, List.mem_singleton, List.not_mem_nil, or_false, not_or]; exact ⟨b1, b2⟩) (Heap.get?_push_of_some _ (Heap.get?_push_of_some _ e))
      · cases r2 with
        | error e => exact hr2
        | ok f2 =>
          cases f2 with
          | ret r =>
            obtain ⟨rfl, hp, tk, c', rfl, hS', hc', hk'⟩ := hr2
            repeat (any_goals (first | assumption | wp_step))
            exact k _ _ _ hS' hc' hk'
          | _ => exact hr2.elim
    | _ => exact hr.elim
end
section
variable {X : Cx} {Wx : WX} {a b c e o : Expr} {ma mb mc me : M D} {pos p p2 pos2 q : Pos}
def rSetL (K : PySem.W.Frag) (w : World) : List V → Hp → VK → Prop := fun vs H Q => ∃ (l : Addr) (ks : List Int), vs = [.ref l] ∧ SqL K H l (ks.map V.int) ∧ ks.length < 64 ∧
  ∀ (p : Addr) (n : Nat), H p = none → n ≤ ks.length → Q (.ref p) (upd H p (SetO w p (fun j => decide (j ∈ ks)) n))
theorem cr_setL (hc : X.calm = true) : CallR X (.type "set") (rSetL X.K X.w) := by
  intro pins s σ H vs us Q I r h
  obtain ⟨l, ks, rfl, hq, hl, q1⟩ := h
  obtain ⟨its, r2, pl, hz⟩ := I.list hq
  rw [Vals.ref1 r]
  have hlen : its.toArray.size = ks.length := by rw [List.size_toArray, ← r2.length, List.length_map]
  refine set_of_listI ks (I.ok.hd hc) pl.isList (by simpa using ints_of_vals r2) (by unfold scanBound; omega) fun hp tk c hS hc' hk => ?_
  have hn : H s.heap.objs.size = none := I.hok.fresh (Nat.le_refl _)
  exact ⟨.ref _, upd H s.heap.objs.size (SetO X.w s.heap.objs.size (fun j => decide (j ∈ ks)) c), I.laid (t' := tk) (fun b u e => hk b u e) (Nat.le_refl _) (setO_new hS), rfl, q1 _ c hn hc'⟩

/-- the members, each once, ascending -/
def dedupI : List Int → List Int
  | [] => []
  | x :: xs => if x ∈ xs then dedupI xs else x :: dedupI xs
theorem dedupI_mem {k : Int} : ∀ {xs : List Int}, k ∈ dedupI xs ↔ k ∈ xs
  | [] => Iff.rfl
  | x :: xs => by
    unfold dedupI
    have ih := dedupI_mem (k := k) (xs := xs)
    split
    · rename_i h
      rw [ih, List.mem_cons]
      exact ⟨fun z => .inr z, fun z => z.elim (fun e => e ▸ h) id⟩
    · rw [List.mem_cons, List.mem_cons, ih]
theorem dedupI_nodup : ∀ xs : List Int, (dedupI xs).Nodup
  | [] => List.nodup_nil
  | x :: xs => by
    unfold dedupI
    split
    · exact dedupI_nodup xs
    · rename_i h
      exact List.nodup_cons.mpr ⟨fun z => h (dedupI_mem.mp z), dedupI_nodup xs⟩
def usortI (xs : List Int) : List Int := sortI (dedupI xs)
theorem usort_same {ns ms : List Int} (lt : ms.Pairwise (· < ·)) (mem : ∀ k, k ∈ ms ↔ k ∈ ns) : ms = usortI ns := by
  refine sortI_same ?_ (lt.imp fun h => Int.le_of_lt h)
  have nd : ms.Nodup := lt.imp fun h e => by omega
  rw [List.perm_iff_count]
  intro k
  by_cases h : k ∈ ms
  · rw [List.Nodup.count nd, List.Nodup.count (dedupI_nodup ns)]
    rw [if_pos h, if_pos (dedupI_mem.mpr ((mem k).mp h))]
  · rw [List.count_eq_zero_of_not_mem h, List.count_eq_zero_of_not_mem fun z => h ((mem k).mpr (dedupI_mem.mp z))]
def usortD (lv : Bool) : DF
  | [x], st => match seqL st x with
    | some xs => match allInts xs with
      | some ns => if Ok (ns.length < 64) then mkL lv ((usortI ns).map .int) st else .bad
      | none => .bad
    | none => .bad
  | _, _ => .bad
theorem ce_sortSet {lv : Bool} (hm : X.mg "sorted" = none) (hm2 : X.mg "set" = none) (ha : CE X Wx a ma) (hc : X.calm = true := by rfl) (hg : Gl X "sorted" := by rfl) (hg2 : Gl X "set" := by rfl)
    (h1 : starEach [a] X.env = (false, eval a X.env) :: starEach [] X.env := by rfl)
    (h2 : starEach [Expr.Call (.Name "set" p2) [a] [] q] X.env = (false, eval (.Call (.Name "set" p2) [a] [] q) X.env) :: starEach [] X.env := by rfl) :
    CE X Wx (.Call (.Name "sorted" p) [.Call (.Name "set" p2) [a] [] q] [] pos) (eC (usortD lv) (aCons ma aNil)) := by
  refine PE.mono (pe_callB (cr_sortedSet hc) hg hm boot_sorted (pa_cons (pe_callTy (cr_setL hc) hg2 hm2 boot_set (ca_cons ha ca_nil h1) (he := h1) (hpl := by rfl)) pa_nil h2) (he := h2) (hpl := by rfl)) fun σ H Q h => ?_
  obtain ⟨mu, xi, env, st, re, c, h⟩ := h
  refine tG_mono (tG_bind (R := Rels X.K) re c h) fun vs H1 ⟨mu1, xi1, ds, st1, l1, r1, c1, re1, p1⟩ => ?_
  unfold usortD at p1
  split at p1
  · rename_i x
    split at p1
    · rename_i xs hx
      split at p1
      · rename_i ns hn
        by_cases few : Ok (ns.length < 64)
        · rw [if_pos few] at p1
          obtain ⟨v, e, rx⟩ := r1.one
          obtain ⟨l, ys, ea, sq, s⟩ := seqL_ok c1 rx hx
          subst ea
          rw [allInts_ok hn] at s
          have e2 := s.ints
          subst e2
          refine ⟨l, ns, e, sq, few, fun p n hp hle => ?_⟩
          obtain ⟨le1, c2, fr2⟩ := Corr.new c1 (SetO X.w p (fun j => decide (j ∈ ns)) n) hp
          have hlt : n < 64 := Nat.lt_of_le_of_lt hle few
          refine ⟨p, _, n, rfl, upd_same, hlt, fun ms p2 lt mem len hp2 => ?_⟩
          have hp3 : (⟨upd H1 p (SetO X.w p (fun j => decide (j ∈ ns)) n), mu1, xi1⟩ : Wd).H p2 = none := hp2
          rw [usort_same (ns := ns) lt fun k => by rw [mem k, decide_eq_true_iff]]
          exact post_newL c2 (Rels.ofInts _) (Post.le p1 le1) p2 hp3
        · rw [if_neg few] at p1
          exact p1.elim
      · exact p1.elim
    · exact p1.elim
  · exact p1.elim

/-! ### xs[::-1] -/
end
section
variable {prog : Program} {w : World} {A : Around} {E : Value → Shared → Prop} {s : Shared}
theorem slice_back {sl : Addr} {v1 v2 v3 : Value} {n : Nat} {Q : Int × Int × Nat → Shared → Prop} (hs : s.heap.IsSliceOf sl v1 v2 v3) (p1 : IsPart v1 none) (p2 : IsPart v2 none) (p3 : IsPart v3 (some (-1)))
    (h : Q (((n : Nat) : Int) - 1, -1, n) s) : wpAny (model prog w) A (Builtin.Slice.sliceApplied (.ref sl) (pure (n : Int))) Q E s := by
  obtain ⟨so, so1, so2, so3⟩ := id hs
  unfold Builtin.Slice.sliceApplied Builtin.Slice.sliceFields
  refine wpAny_bind (wpAny_bind (wpAny_field so1 so3 (x := v1) rfl (wpAny_bind (wpAny_field so1 so3 (x := v2) rfl (wpAny_bind (wpAny_field so1 so3 (x := v3) rfl (wpAny_pure ?_)))))))
  refine wpAny_bind (HT.slicePart_ p3 (?_ : wpAny _ _ (if ((-1 : Int) == 0) = true then _ else _) _ _ s))
  rw [if_neg (by decide)]
  refine wpAny_bind (HT.slicePart_ p1 (wpAny_bind (HT.slicePart_ p2 (wpAny_bind (wpAny_pure ?_)))))
  show wpAny _ _ (match Builtin.Slice.sliceAdjust none none (-1) (n : Int) with | (lo, hi) => pure (lo, (-1 : Int), Builtin.Slice.slicePlaces lo hi (-1))) _ _ s
  have e1 : Builtin.Slice.sliceAdjust none none (-1) (n : Int) = ((n : Int) - 1, -1) := rfl
  have e2 : Builtin.Slice.slicePlaces ((n : Int) - 1) (-1) (-1) = n := by
    unfold Builtin.Slice.slicePlaces
    rw [if_neg (by decide), show (-(-1) : Int) = 1 from rfl, Int.ediv_one]
    split <;> omega
  rw [e1]
  show wpAny _ _ (pure ((n : Int) - 1, (-1 : Int), Builtin.Slice.slicePlaces ((n : Int) - 1) (-1) (-1))) _ _ s
  rw [e2]
  exact wpAny_pure h
theorem fm_congr {α β : Type} {f g : α → Option β} : ∀ l : List α, (∀ x ∈ l, f x = g x) → l.filterMap f = l.filterMap g
  | [], _ => rfl
  | x :: l, h => by
    rw [List.filterMap_cons, List.filterMap_cons, h x List.mem_cons_self, fm_congr l fun y hy => h y (List.mem_cons_of_mem _ hy)]
theorem pick_back (xs : Array Value) : ((List.range xs.size).filterMap fun (m : Nat) => xs[(((xs.size : Nat) : Int) - 1 + (m : Int) * -1).toNat]?).toArray = xs.toList.reverse.toArray := by
  have e : (List.range xs.size).filterMap (fun (m : Nat) => xs[(((xs.size : Nat) : Int) - 1 + (m : Int) * -1).toNat]?) = ((List.range xs.size).map fun k => xs.size - 1 - k).filterMap (xs[·]?) := by
    rw [List.filterMap_map]
    refine fm_congr _ fun m hm => ?_
    have := List.mem_range.mp hm
    have q : (((xs.size : Nat) : Int) - 1 + (m : Int) * -1).toNat = xs.size - 1 - m := by omega
    rw [q]
    rfl
  rw [e, PySem.W.krv_range, List.filterMap_reverse, PySem.W.krv_all]
theorem tuple_back {t sl : Addr} {cells : Array Value} {v1 v2 v3 : Value} {Q : Value → Shared → Prop} (ht : IsTup s.heap t cells) (hs : s.heap.IsSliceOf sl v1 v2 v3) (p1 : IsPart v1 none) (p2 : IsPart v2 none) (p3 : IsPart v3 (some (-1)))
    (h : Q (.ref s.heap.objs.size) { s with heap := s.heap.push { cls := .type "tuple", data := .seq cells.toList.reverse.toArray } }) (hz : cells.size ≤ sizeLine) : wpAny (model prog w) A (getItem (.ref t) (.ref sl)) Q E s := by
  have fits : sizeOk (.seq cells.toList.reverse.toArray) := by
    show cells.toList.reverse.toArray.size ≤ sizeLine
    rw [List.size_toArray, List.length_reverse, Array.length_toList]
    exact hz
  obtain ⟨so, so1, so2, so3⟩ := id hs
  have ts : s.TypeIs (.ref sl) "slice" := ⟨so, so1, so2⟩
  unfold getItem
  try with_reducible refine wpAny_holding ?_
  first | refine wpAny_bind (wpAny_pure ?_) | skip
  refine wpAny_bind (wpAny_sequenceKey ht.typeIs (by decide) ?_)
  refine wpAny_bind (wpAny_callSpecial?_slot (name := Str.ofString "__getitem__") ht.typeIs slot_tuple_getitem (wpAny_call_entry slot_tuple_getitem ht.typeIs entry_tuple_getitem (?_ : wpAny _ _ (Builtin.Tuple.tupleItemsOf (.ref t) >>= _) _ _ s) (args_tuple_getitem _ _)))
  refine wpAny_bind (tupleItemsOf_ ht (wpAny_bind (wpAny_typeOf ts ?_)))
  rw [if_pos (by decide)]
  refine wpAny_bind (slice_back hs p1 p2 p3 ?_)
  have no : ¬ ((((cells.size : Nat) : Int) - 1 == 0 && (-1 : Int) == 1 && cells.size == cells.size) = true) := by
    intro q
    rw [Bool.and_eq_true, Bool.and_eq_true] at q
    exact absurd q.1.2 (by decide)
  show wpAny _ _ (if (((cells.size : Nat) : Int) - 1 == 0 && (-1 : Int) == 1 && cells.size == cells.size) = true then _ else _) _ _ s
  rw [if_neg no, pick_back]
  first
    | exact wpAny_bind (m := Builtin.Tuple.tupleExact _) (wpAny_newObj_type (wpAny_pure ⟨_, rfl, wpAny_pure h⟩) fits)
    | exact wpAny_bind (m := Builtin.Tuple.tupleExact _) (wpAny_newObj_type (wpAny_bind (wpAny_pure (wpAny_pure ⟨_, rfl, wpAny_pure h⟩))) fits)
    | exact wpAny_bind (wpAny_bind (m := Builtin.Tuple.tupleExact _) (wpAny_newObj_type (wpAny_pure (wpAny_pure ⟨_, rfl, wpAny_pure h⟩)) fits))
    | exact wpAny_bind (wpAny_bind (m := Builtin.Tuple.tupleExact _) (wpAny_newObj_type (wpAny_pure ⟨_, rfl, wpAny_pure h⟩) fits))
end
section
variable {X : Cx} {Wx : WX} {a b c e o : Expr} {ma mb mc me : M D} {pos p p1 p2 p3 q : Pos} {k : Nat}
def tRevT (K : PySem.W.Frag) (te : TE) : TE := fun σ H Q => te σ H fun x H1 => ∃ a xs, x = .ref a ∧ SqT K H1 a xs ∧ ∀ p, H1 p = none → Q (.ref p) (upd H1 p (.tup xs.reverse))
def tRevX (K : PySem.W.Frag) (te : TE) : TE := fun σ H Q => te σ H fun x H1 => (∃ a xs, x = .ref a ∧ SqL K H1 a xs ∧ ∀ p, H1 p = none → Q (.ref p) (upd H1 p (.lst xs.reverse))) ∨ ∃ a xs, x = .ref a ∧ SqT K H1 a xs ∧ ∀ p, H1 p = none → Q (.ref p) (upd H1 p (.tup xs.reverse))
theorem pe_revX {te : TE} (he : PE X e te) : PE X (.Subscript e (.Slice none none (some (.UnaryOp .USub (.Constant (.int 1) k p1) p2)) p3) pos) (tRevX X.K te) := by
  refine ⟨fun pins s σ H Q I h => ?_⟩
  have step : PO X (some (.UnaryOp .USub (.Constant (.int 1) k p1) p2)) (tPart (tUn (rU fun i => .int (-i)) (tC (.int 1)))) := po_some (pe_un un_neg pe_int)
  refine Subscript_ (thn (he.run pins s σ H _ I h) fun v s1 ⟨x, H1, I1, r1, q1⟩ => wpAny_Slice (thn (po_none.run pins s1 σ H1 (fun o H2 => o = none ∧ H2 = H1) I1 ⟨rfl, rfl⟩) fun vl s2 ⟨l, H2, I2, pl, el, e2⟩ => ?_))
  subst el e2
  refine thn (po_none.run pins s2 σ H2 (fun o H3 => o = none ∧ H3 = H2) I2 ⟨rfl, rfl⟩) fun vu s3 ⟨u, H3, I3, pu, eu, e3⟩ => ?_
  subst eu e3
  refine thn (step.run pins s3 σ H3 (fun o H4 => o = some (-1) ∧ H4 = H3) I3 ⟨1, rfl, -1, rfl, rfl, rfl⟩) fun vs s4 ⟨o, H4, I4, ps, eo, e4⟩ => ?_
  subst eo e4
  have J : Inv X pins σ H4 { s4 with heap := s4.heap.push { cls := .type "slice", data := .fields #[vl, vu, vs] } } := I4.kept (t' := s4.toks) fun b ob z => Heap.get?_push_of_some _ z
  rcases q1 with ⟨a, xs, ex, hx, q⟩ | ⟨a, xs, ex, hx, q⟩
  · subst ex
    cases r1
    obtain ⟨its, r, ht, hz⟩ := J.list hx
    have hl := r.length
    refine (?_ : wpAny (model X.prog X.w) X.A (subscriptTail e (.Slice none none (some (.UnaryOp .USub (.Constant (.int 1) k p1) p2)) p3) (.ref a) (.ref s4.heap.objs.size)) (EP X pins σ Q) X.xe _)
    refine tail_any (ops := [.ref a, .ref s4.heap.objs.size]) ht.isList.typeIs (PySem.slot_list_getitem.lookup) (wpAny_getItem_list_slice ht.isList (Heap.IsSliceOf.new _ vl vu vs) pl pu ps (by decide) ?_ (by rw [List.size_toArray]; omega)) (by with_unfolding_all rfl)
    rw [PySem.W.krv_pick]
    exact ⟨.ref _, _, J.laid (t' := s4.toks) (o := .lst xs.reverse) (fun b ob z => Heap.get?_push_of_some _ z) (Nat.le_refl _) ⟨by rw [List.length_reverse]; exact hz, _, 0, r.reverse, Heap.get?_push_size _ rfl⟩, rfl, q _ (J.hok.fresh (Nat.le_refl _))⟩
  · subst ex
    cases r1
    obtain ⟨its, r, ht, hz⟩ := J.tuple hx
    have hl := r.length
    refine (?_ : wpAny (model X.prog X.w) X.A (subscriptTail e (.Slice none none (some (.UnaryOp .USub (.Constant (.int 1) k p1) p2)) p3) (.ref a) (.ref s4.heap.objs.size)) (EP X pins σ Q) X.xe _)
    refine tail_any (ops := [.ref a, .ref s4.heap.objs.size]) ht.typeIs (slot_tuple_getitem.lookup) (tuple_back ht (Heap.IsSliceOf.new _ vl vu vs) pl pu ps ?_ (by rw [List.size_toArray]; omega)) (by with_unfolding_all rfl)
    exact ⟨.ref _, _, J.laid (t' := s4.toks) (o := .tup xs.reverse) (fun b ob z => Heap.get?_push_of_some _ z) (Nat.le_refl _) ⟨by rw [List.length_reverse]; exact hz, _, r.reverse, IsTup.new _ _⟩, rfl, q _ (J.hok.fresh (Nat.le_refl _))⟩
def revD (lv : Bool) (x : D) (st : Sto) : Res D := match x with
  | .tup xs => .ok (.tup xs.reverse) st
  | _ => match seqL st x with
    | some xs => mkL lv xs.reverse st
    | none => .bad
def eRev (lv : Bool) (ma : M D) : M D := fun env st => (ma env st).bind fun x s1 => revD lv x s1
theorem ce_rev {lv : Bool} (ha : CE X Wx a ma) : CE X Wx (.Subscript a (.Slice none none (some (.UnaryOp .USub (.Constant (.int 1) k p1) p2)) p3) pos) (eRev lv ma) := PE.mono (pe_revX ha) fun σ H Q h => by
  obtain ⟨mu, xi, env, st, re, c, h⟩ := h
  refine tG_mono (tG_bind (R := Rel X.K) re c h) fun v H1 ⟨mu1, xi1, d, st1, l1, r1, c1, re1, p1⟩ => ?_
  have lst : Post X.K (Rel X.K) ⟨H1, mu1, xi1⟩ σ Wx Q (match seqL st1 d with
    | some xs => mkL lv xs.reverse st1
    | none => .bad) → ∃ a xs, v = .ref a ∧ SqL X.K H1 a xs ∧ ∀ p, H1 p = none → Q (.ref p) (upd H1 p (.lst xs.reverse)) := fun g => by
    cases hx : seqL st1 d with
    | none =>
      rw [hx] at g
      exact g.elim
    | some xs =>
      rw [hx] at g
      obtain ⟨l, ys, ea, sq, s⟩ := seqL_ok c1 r1 hx
      exact ⟨l, ys, ea, sq, fun p hp => post_newL c1 s.reverse g p hp⟩
  cases d with
  | tup xs =>
    obtain ⟨l, ys, ea, sq, s⟩ := seqT_ok (xs := xs) r1 rfl
    exact .inr ⟨l, ys, ea, sq, fun p hp => post_newT c1 s.reverse p1 p hp⟩
  | _ => exact .inl (lst p1)
end
end ND
end
namespace ND
open PySem L2
/-- what ends a loop's turn for good -/
def Ends : SRes → Prop
  | .nx _ _ => False
  | .ct _ _ => False
  | .bk _ _ => False
  | _ => True
section
variable {rd : Nat → Sto → Option (Option D)} {ds : List D} {g : GD} {body : MS}
theorem loop_gen (P : Nat → Env → Sto → Prop) (R : SRes → Prop) (hrd : ∀ i env st, P i env st → rd i st = some ds[i]?)
    (step : ∀ (i : Nat) (d : D) (env : Env) (st : Sto), ds[i]? = some d → P i env st → ∃ e1, g d env = some e1 ∧
      ((∃ e2 s2, (body e1 st = .nx e2 s2 ∨ body e1 st = .ct e2 s2) ∧ P (i + 1) e2 s2) ∨ (∃ e2 s2, body e1 st = .bk e2 s2 ∧ R (.nx e2 s2)) ∨ (Ends (body e1 st) ∧ R (body e1 st)))) :
    ∀ (n i : Nat) (env : Env) (st : Sto), n + i = ds.length → P i env st → (∃ e2 s2, loopR rd g body n i env st = .nx e2 s2 ∧ P ds.length e2 s2) ∨ R (loopR rd g body n i env st)
  | 0, i, env, st, e, p => by
    have e' : i = ds.length := by omega
    subst e'
    refine .inl ⟨env, st, ?_, p⟩
    unfold loopR
    rw [hrd _ _ _ p, List.getElem?_eq_none (Nat.le_refl _)]
  | n + 1, i, env, st, e, p => by
    have hl : i < ds.length := by omega
    have hd : ds[i]? = some ds[i] := List.getElem?_eq_getElem hl
    obtain ⟨e1, hg, hs⟩ := step i _ env st hd p
    have un : loopR rd g body (n + 1) i env st = (match body e1 st with
        | .nx e s => loopR rd g body n (i + 1) e s
        | .ct e s => loopR rd g body n (i + 1) e s
        | .bk e s => .nx e s
        | r => r) := by
      conv => lhs; unfold loopR
      rw [hrd _ _ _ p, hd]
      dsimp only
      rw [hg] <;> rfl
    rw [un]
    rcases hs with ⟨e2, s2, hb, p2⟩ | ⟨e2, s2, hb, r2⟩ | ⟨he, r2⟩
    · have ih := loop_gen P R hrd step n (i + 1) e2 s2 (by omega) p2
      rcases hb with hb | hb
      · rw [hb]
        exact ih
      · rw [hb]
        exact ih
    · rw [hb]
      exact .inr r2
    · refine .inr ?_
      revert he r2
      cases body e1 st with
      | nx _ _ => exact fun h => h.elim
      | ct _ _ => exact fun h => h.elim
      | bk _ _ => exact fun h => h.elim
      | rt _ _ => exact fun _ h => h
      | exc _ _ _ _ _ => exact fun _ h => h
      | bad => exact fun _ h => h
/-- a for statement -/
theorem for_gen {mi : M Src} {env : Env} {st s1 : Sto} {S : Src} (h1 : mi env st = .ok S s1) (hn : S.n = ds.length) (P : Nat → Env → Sto → Prop) (R : SRes → Prop) (h0 : P 0 env s1) (hrd : ∀ i env st, P i env st → S.rd i st = some ds[i]?)
    (step : ∀ (i : Nat) (d : D) (env : Env) (st : Sto), ds[i]? = some d → P i env st → ∃ e1, g d env = some e1 ∧
      ((∃ e2 s2, (body e1 st = .nx e2 s2 ∨ body e1 st = .ct e2 s2) ∧ P (i + 1) e2 s2) ∨ (∃ e2 s2, body e1 st = .bk e2 s2 ∧ R (.nx e2 s2)) ∨ (Ends (body e1 st) ∧ R (body e1 st)))) :
    (∃ e2 s2, sFor mi g body env st = .nx e2 s2 ∧ P ds.length e2 s2) ∨ R (sFor mi g body env st) := by
  have e : sFor mi g body env st = loopR S.rd g body S.n 0 env s1 := by
    unfold sFor
    rw [h1]
    rfl
  rw [e, hn]
  exact loop_gen P R hrd step ds.length 0 env s1 rfl h0
/-- .. that goes through all its turns -/
theorem for_all {mi : M Src} {env : Env} {st s1 : Sto} {S : Src} (h1 : mi env st = .ok S s1) (hn : S.n = ds.length) (P : Nat → Env → Sto → Prop) (h0 : P 0 env s1) (hrd : ∀ i env st, P i env st → S.rd i st = some ds[i]?)
    (step : ∀ (i : Nat) (d : D) (env : Env) (st : Sto), ds[i]? = some d → P i env st → ∃ e1, g d env = some e1 ∧ ∃ e2 s2, (body e1 st = .nx e2 s2 ∨ body e1 st = .ct e2 s2) ∧ P (i + 1) e2 s2) :
    ∃ e2 s2, sFor mi g body env st = .nx e2 s2 ∧ P ds.length e2 s2 := by
  rcases for_gen (body := body) (g := g) h1 hn P (fun _ => False) h0 hrd (fun i d env st hd p => by
    obtain ⟨e1, hg, h⟩ := step i d env st hd p
    exact ⟨e1, hg, .inl h⟩) with h | h
  · exact h
  · exact h.elim
/-- .. over data that stands still -/
theorem for_allF {mi : M Src} {env : Env} {st s1 : Sto} (h1 : mi env st = .ok (.fz ds) s1) (P : Nat → Env → Sto → Prop) (h0 : P 0 env s1)
    (step : ∀ (i : Nat) (d : D) (env : Env) (st : Sto), ds[i]? = some d → P i env st → ∃ e1, g d env = some e1 ∧ ∃ e2 s2, (body e1 st = .nx e2 s2 ∨ body e1 st = .ct e2 s2) ∧ P (i + 1) e2 s2) :
    ∃ e2 s2, sFor mi g body env st = .nx e2 s2 ∧ P ds.length e2 s2 := for_all h1 rfl P h0 (fun _ _ _ _ => rfl) step
theorem for_genF {mi : M Src} {env : Env} {st s1 : Sto} (h1 : mi env st = .ok (.fz ds) s1) (P : Nat → Env → Sto → Prop) (R : SRes → Prop) (h0 : P 0 env s1)
    (step : ∀ (i : Nat) (d : D) (env : Env) (st : Sto), ds[i]? = some d → P i env st → ∃ e1, g d env = some e1 ∧
      ((∃ e2 s2, (body e1 st = .nx e2 s2 ∨ body e1 st = .ct e2 s2) ∧ P (i + 1) e2 s2) ∨ (∃ e2 s2, body e1 st = .bk e2 s2 ∧ R (.nx e2 s2)) ∨ (Ends (body e1 st) ∧ R (body e1 st)))) :
    (∃ e2 s2, sFor mi g body env st = .nx e2 s2 ∧ P ds.length e2 s2) ∨ R (sFor mi g body env st) := for_gen h1 rfl P R h0 (fun _ _ _ _ => rfl) step
end
/-! ### comprehensions over any source -/
section
variable {rd : Nat → Sto → Option (Option D)} {ds : List D} {g : GD} {t : M Bool} {me : M D} {env : Env}
theorem comp_gen (P : Nat → List D → Sto → Prop) (hrd : ∀ i acc st, P i acc st → rd i st = some ds[i]?)
    (step : ∀ (i : Nat) (d : D) (acc : List D) (st : Sto), ds[i]? = some d → P i acc st → ∃ e1, g d env = some e1 ∧ ((∃ s1 y s2, t e1 st = .ok true s1 ∧ me e1 s1 = .ok y s2 ∧ acc.length < 16777216 ∧ P (i + 1) (acc ++ [y]) s2) ∨ ∃ s1, t e1 st = .ok false s1 ∧ P (i + 1) acc s1)) :
    ∀ (n i : Nat) (acc : List D) (st : Sto), n + i = ds.length → P i acc st → ∃ acc2 s2, compR rd g t me env n i acc st = .ok acc2 s2 ∧ P ds.length acc2 s2
  | 0, i, acc, st, e, p => by
    have e' : i = ds.length := by omega
    subst e'
    refine ⟨acc, st, ?_, p⟩
    unfold compR
    rw [hrd _ _ _ p, List.getElem?_eq_none (Nat.le_refl _)]
  | n + 1, i, acc, st, e, p => by
    have hl : i < ds.length := by omega
    have hd : ds[i]? = some ds[i] := List.getElem?_eq_getElem hl
    obtain ⟨e1, hg, hs⟩ := step i _ acc st hd p
    have un : compR rd g t me env (n + 1) i acc st = (noX (t e1 st)).bind fun b s1 => if b = true then (noX (me e1 s1)).bind fun y s2 => if Ok (acc.length < sizeLine) then compR rd g t me env n (i + 1) (acc ++ [y]) s2 else .bad
        else compR rd g t me env n (i + 1) acc s1 := by
      conv => lhs; unfold compR
      rw [hrd _ _ _ p, hd]
      dsimp only
      rw [hg] <;> rfl
    rw [un]
    rcases hs with ⟨s1, y, s2, ht, hm, hz, p2⟩ | ⟨s1, ht, p2⟩
    · obtain ⟨a3, s3, h3, p3⟩ := comp_gen P hrd step n (i + 1) _ s2 (by omega) p2
      refine ⟨a3, s3, ?_, p3⟩
      have hz' : Ok (acc.length < sizeLine) := show acc.length < sizeLine by rw [sizeLine_eq]; exact hz
      rw [ht]
      show (if true = true then (noX (me e1 s1)).bind fun y s2 => if Ok (acc.length < sizeLine) then compR rd g t me env n (i + 1) (acc ++ [y]) s2 else .bad else compR rd g t me env n (i + 1) acc s1) = _
      rw [if_pos rfl, hm]
      show (if Ok (acc.length < sizeLine) then compR rd g t me env n (i + 1) (acc ++ [y]) s2 else .bad) = _
      rw [if_pos hz']
      exact h3
    · obtain ⟨a3, s3, h3, p3⟩ := comp_gen P hrd step n (i + 1) _ s1 (by omega) p2
      refine ⟨a3, s3, ?_, p3⟩
      rw [ht]
      exact h3
theorem eComp_gen {lv : Bool} {mi : M Src} {vs : List Nat} {env0 : Env} {st s1 : Sto} {S : Src} (h1 : mi env0 st = .ok S s1) (hn : S.n = ds.length) (P : Nat → List D → Sto → Prop) (h0 : P 0 [] s1) (hrd : ∀ i acc st, P i acc st → S.rd i st = some ds[i]?)
    (step : ∀ (i : Nat) (d : D) (acc : List D) (st : Sto), ds[i]? = some d → P i acc st → ∃ e1, g d (wipeD env0 vs) = some e1 ∧ ((∃ s1 y s2, t e1 st = .ok true s1 ∧ me e1 s1 = .ok y s2 ∧ acc.length < 16777216 ∧ P (i + 1) (acc ++ [y]) s2) ∨ ∃ s1, t e1 st = .ok false s1 ∧ P (i + 1) acc s1)) :
    ∃ acc s2, eComp lv mi g t me vs env0 st = mkL lv acc s2 ∧ P ds.length acc s2 := by
  obtain ⟨acc, s2, e, p⟩ := comp_gen (env := wipeD env0 vs) P hrd step ds.length 0 [] s1 rfl h0
  refine ⟨acc, s2, ?_, p⟩
  unfold eComp
  rw [h1]
  show (compR S.rd g t me (wipeD env0 vs) S.n 0 [] s1).bind (fun acc s2 => mkL lv acc s2) = _
  rw [hn, e]
  rfl
/-- .. without effects: f of those that p takes -/
theorem eComp_pure {lv : Bool} {mi : M Src} {vs : List Nat} {env0 : Env} {st s1 : Sto} (h1 : mi env0 st = .ok (.fz ds) s1) (f : D → D) (p : D → Bool) (hz : ds.length ≤ 16777216)
    (h : ∀ d ∈ ds, ∃ e1, g d (wipeD env0 vs) = some e1 ∧ t e1 s1 = .ok (p d) s1 ∧ (p d = true → me e1 s1 = .ok (f d) s1)) : eComp lv mi g t me vs env0 st = mkL lv ((ds.filter p).map f) s1 := by
  have e := comp_filter (g := g) (t := t) (me := me) (env := wipeD env0 vs) (st := s1) f p (all := ds) h (by rw [sizeLine_eq]; exact hz)
  unfold eComp
  rw [h1]
  show (compR (Src.fz ds).rd g t me (wipeD env0 vs) ds.length 0 [] s1).bind (fun acc s2 => mkL lv acc s2) = _
  rw [e]
  rfl
end
/-! ### lists that are maps -/
section
variable {α : Type} {f : α → D} {xs : List α}
theorem at_map {i : Nat} (h : i < xs.length) : atI (xs.map f) (i : Int) = some (f xs[i]) := by
  rw [at_nat, List.getElem?_map, List.getElem?_eq_getElem h]
  rfl
theorem at_mapI {i : Int} (h0 : 0 ≤ i) (h : i < xs.length) : atI (xs.map f) i = some (f (xs[i.toNat]'(by omega))) := by
  rw [at_pos h0, List.getElem?_map, List.getElem?_eq_getElem (by omega)]
  rfl
theorem at_mapL (h : xs ≠ []) : atI (xs.map f) (-1) = some (f (xs.getLast h)) := by
  have h2 : xs.map f ≠ [] := fun e => h (List.map_eq_nil_iff.mp e)
  rw [at_last h2]
  have e : (xs.map f).getLast h2 = f (xs.getLast h) := List.getLast_map (f := f) (h := h2)
  rw [e]
theorem pds_map (h : ∀ x ∈ xs, pd (f x) = true) : pds (xs.map f) = true := by
  induction xs with
  | nil => rfl
  | cons x xs ih =>
    show (pd (f x) && pds (xs.map f)) = true
    rw [h x List.mem_cons_self, ih fun y hy => h y (List.mem_cons_of_mem _ hy)]
    rfl
theorem map_snoc {x : α} : (xs ++ [x]).map f = xs.map f ++ [f x] := by rw [List.map_append]; rfl
theorem cut_map {lo hi : Option Int} : cutD (xs.map f) lo hi = (cutD xs lo hi).map f := by
  unfold cutD
  rw [List.length_map, List.map_take, List.map_drop]
theorem get_map {i : Nat} {d : D} (h : (xs.map f)[i]? = some d) : ∃ x, xs[i]? = some x ∧ d = f x ∧ i < xs.length := by
  rw [List.getElem?_map] at h
  obtain ⟨x, hx, rfl⟩ := Option.map_eq_some_iff.mp h
  exact ⟨x, hx, rfl, (List.getElem?_eq_some_iff.mp hx).1⟩
end
/-- a store's list, one more -/
theorem app_at {st : Sto} {n : Nat} {xs : List D} {y : D} (h : st[n]? = some (.lst xs)) (hz : xs.length < 16777216) : appendD (.ref n) [y] st = .ok .non (st.set n (.lst (xs ++ [y]))) := app_ref h (by rw [sizeLine_eq]; exact hz)
theorem pds_app {xs ys : List D} (h1 : pds xs = true) (h2 : pds ys = true) : pds (xs ++ ys) = true := by
  induction xs with
  | nil => exact h2
  | cons x xs ih =>
    have h3 : (pd x && pds xs) = true := h1
    rw [Bool.and_eq_true] at h3
    show (pd x && pds (xs ++ ys)) = true
    rw [h3.1, ih h3.2]
    rfl
end ND
namespace K75
open PySem L2 PyProof.Rows ND
def top (i : Nat) : Stmt := PySem.Challenge.pw_drawnlayers_k75_whole_fewest_bends.main.body.getD i (.Pass ⟨0, 0, 0, 0⟩)
def sub (i j : Nat) : Stmt := (cbody (top i)).getD j (.Pass ⟨0, 0, 0, 0⟩)
abbrev ftL : FT := [("Span", "low"), ("Span", "high")]
abbrev csL : List String := []
abbrev itL : IT := [((false, "NoneType"), (false, "bool"), false), ((false, "bool"), (false, "bool"), true), ((false, "int"), (false, "bool"), false), ((false, "str"), (false, "bool"), false), ((false, "tuple"), (false, "bool"), false), ((false, "list"), (false, "bool"), false), ((false, "dict"), (false, "bool"), false), ((false, "NoneType"), (false, "int"), false), ((false, "bool"), (false, "int"), true), ((false, "int"), (false, "int"), true), ((false, "str"), (false, "int"), false), ((false, "tuple"), (false, "int"), false), ((false, "list"), (false, "int"), false), ((false, "dict"), (false, "int"), false), ((false, "NoneType"), (false, "list"), false), ((false, "bool"), (false, "list"), false), ((false, "int"), (false, "list"), false), ((false, "str"), (false, "list"), false), ((false, "tuple"), (false, "list"), false), ((false, "list"), (false, "list"), true), ((false, "dict"), (false, "list"), false), ((false, "NoneType"), (false, "tuple"), false), ((false, "bool"), (false, "tuple"), false), ((false, "int"), (false, "tuple"), false), ((false, "str"), (false, "tuple"), false), ((false, "tuple"), (false, "tuple"), true), ((false, "list"), (false, "tuple"), false), ((false, "dict"), (false, "tuple"), false)]
abbrev s__law_bag : Stmt := top 11
abbrev N__law_bag : List Str := ["script", "cell"]
abbrev P__law_bag : List Str := ["script"]
theorem sc__law_bag : FnScope N__law_bag P__law_bag (defScope s__law_bag) := ⟨rfl, rfl, rfl, by decide +kernel, rfl, by decide +kernel, by decide +kernel⟩
noncomputable def y__law_bag : MS := sRet (eLst true (aCons (eComp false (iVal (eVar 0)) (gNm 1) (bYes) (eC (i1 fun i => .int (absI i)) (aCons (eC intD (aCons (eVar 1) (aNil))) (aNil))) [1]) (aCons (eK (.int 0)) (aCons (eK (.int 0)) (aCons (eK (.int 0)) (aCons (eK (.int 0)) (aCons (eK (.int 0)) (aNil))))))))
noncomputable def m__law_bag : DF := fn 1 2 true y__law_bag
abbrev s__law_draw : Stmt := top 12
abbrev N__law_draw : List Str := ["bag", "many", "cell", "drawn", "first", "second", "third"]
abbrev P__law_draw : List Str := ["bag", "many"]
theorem sc__law_draw : FnScope N__law_draw P__law_draw (defScope s__law_draw) := ⟨rfl, rfl, rfl, by decide +kernel, rfl, by decide +kernel, by decide +kernel⟩
noncomputable def y__law_draw_7 : MS := sRet (e2 modI (eC intD (aCons (e2 divI (eVar 6) (eK (.int 3))) (aNil))) (eVar 1))
noncomputable def y__law_draw_6 : MS := sSeq (sSet 6 (e2 modI (eC intD (aCons (e2 addX (e2 (mulX false) (eVar 5) (eVar 5)) (e2 divI (eVar 5) (eK (.int 97)))) (aNil))) (eK (.int 2147483629)))) (y__law_draw_7)
noncomputable def y__law_draw_5 : MS := sSeq (sSet 5 (e2 modI (eC intD (aCons (e2 addX (e2 addX (e2 (mulX false) (eVar 4) (eVar 4)) (e2 (mulX false) (e2 ixD (eVar 0) (eK (.int 4))) (eK (.int 3571)))) (eK (.int 40692))) (aNil))) (eK (.int 2147483399)))) (y__law_draw_6)
noncomputable def y__law_draw_4 : MS := sSeq (sSet 4 (e2 modI (eC intD (aCons (e2 addX (e2 addX (e2 (mulX false) (e2 ixD (eVar 0) (eK (.int 3))) (eK (.int 48271))) (e2 (mulX false) (e2 ixD (eVar 0) (eK (.int 4))) (eK (.int 69621)))) (eK (.int 12345))) (aNil))) (eK (.int 2147483647)))) (y__law_draw_5)
noncomputable def y__law_draw_3 : MS := sSeq (sIf (toB (e2 gtI (e2 ixD (eVar 0) (eK (.int 5))) (eK (.int 0)))) (sSetIx (eVar 0) (eK (.int 5)) (e2 subI (e2 ixD (eVar 0) (eK (.int 5))) (eK (.int 1)))) (sNil)) (y__law_draw_4)
noncomputable def y__law_draw_2 : MS := sSeq (sSetIx (eVar 0) (eK (.int 4)) (e2 addX (e2 ixD (eVar 0) (eK (.int 4))) (eK (.int 1)))) (y__law_draw_3)
noncomputable def y__law_draw_1 : MS := sSeq (sIf (toB (e2 gtI (e2 ixD (eVar 0) (eK (.int 2))) (eK (.int 0)))) (sSeq (sSet 3 (e2 modI (eC intD (aCons (e2 ixD (eVar 0) (eK (.int 2))) (aNil))) (eVar 1))) (sSeq (sSetIx (eVar 0) (eK (.int 2)) (e2 divI (e2 ixD (eVar 0) (eK (.int 2))) (eVar 1))) (sRet (eVar 3)))) (sNil)) (y__law_draw_2)
noncomputable def y__law_draw : MS := sSeq (sIf (bAnd (toB (e2 (eqD false) (e2 ixD (eVar 0) (eK (.int 2))) (eK (.int 0)))) (bAnd (toB (e2 (eqD false) (e2 ixD (eVar 0) (eK (.int 5))) (eK (.int 0)))) (toB (e2 ltI (e2 ixD (eVar 0) (eK (.int 1))) (eC lenD (aCons (e2 ixD (eVar 0) (eK (.int 0))) (aNil))))))) (sSeq (sSet 2 (e2 ixD (e2 ixD (eVar 0) (eK (.int 0))) (e2 ixD (eVar 0) (eK (.int 1))))) (sSeq (sSetIx (eVar 0) (eK (.int 1)) (e2 addX (e2 ixD (eVar 0) (eK (.int 1))) (eK (.int 1)))) (sIf (toB (e2 geI (eVar 2) (e2 powI (eK (.int 10)) (eK (.int 18))))) (sSetIx (eVar 0) (eK (.int 2)) (eVar 2)) (sSeq (sSetIx (eVar 0) (eK (.int 3)) (e2 modI (eC intD (aCons (e2 addX (e2 (mulX false) (e2 ixD (eVar 0) (eK (.int 3))) (eK (.int 31))) (eVar 2)) (aNil))) (eK (.int 1000000007)))) (sSetIx (eVar 0) (eK (.int 5)) (eK (.int 5))))))) (sNil)) (y__law_draw_1)
noncomputable def m__law_draw : DF := fn 2 7 false y__law_draw
abbrev s__law_pick : Stmt := top 13
abbrev N__law_pick : List Str := ["bag", "things"]
abbrev P__law_pick : List Str := ["bag", "things"]
theorem sc__law_pick : FnScope N__law_pick P__law_pick (defScope s__law_pick) := ⟨rfl, rfl, rfl, by decide +kernel, rfl, by decide +kernel, by decide +kernel⟩
noncomputable def y__law_pick : MS := sRet (e2 ixD (eVar 1) (eC m__law_draw (aCons (eVar 0) (aCons (eC lenD (aCons (eVar 1) (aNil))) (aNil)))))
noncomputable def m__law_pick : DF := fn 2 2 false y__law_pick
abbrev s__law_beside : Stmt := top 17
abbrev N__law_beside : List Str := ["bag", "ends", "marks"]
abbrev P__law_beside : List Str := ["bag", "ends"]
theorem sc__law_beside : FnScope N__law_beside P__law_beside (defScope s__law_beside) := ⟨rfl, rfl, rfl, by decide +kernel, rfl, by decide +kernel, by decide +kernel⟩
noncomputable def y__law_beside_1 : MS := sRet (eC (i2f fun i j => .int (maxI i j)) (aCons (e2 subI (eK (.int 0)) (e2 powI (eK (.int 10)) (eK (.int 9)))) (aCons (eC (i2f fun i j => .int (minI i j)) (aCons (eC m__law_pick (aCons (eVar 0) (aCons (eVar 2) (aNil)))) (aCons (e2 powI (eK (.int 10)) (eK (.int 9))) (aNil)))) (aNil))))
noncomputable def y__law_beside : MS := sSeq (sSet 2 (eLst false (aCons (e2 subI (e2 ixD (eVar 1) (eK (.int 0))) (eK (.int 1))) (aCons (e2 ixD (eVar 1) (eK (.int 0))) (aCons (e2 divI (e2 addX (e2 ixD (eVar 1) (eK (.int 0))) (e2 ixD (eVar 1) (eK (.int 1)))) (eK (.int 2))) (aCons (e2 ixD (eVar 1) (eK (.int 1))) (aCons (e2 addX (e2 ixD (eVar 1) (eK (.int 1))) (eK (.int 1))) (aNil)))))))) (y__law_beside_1)
noncomputable def m__law_beside : DF := fn 2 3 false y__law_beside
abbrev s__law_far : Stmt := top 16
abbrev N__law_far : List Str := ["bag", "size"]
abbrev P__law_far : List Str := ["bag"]
theorem sc__law_far : FnScope N__law_far P__law_far (defScope s__law_far) := ⟨rfl, rfl, rfl, by decide +kernel, rfl, by decide +kernel, by decide +kernel⟩
noncomputable def y__law_far_1 : MS := sRet (e2 subI (eVar 1) (e2 (mulX false) (e2 (mulX false) (eK (.int 2)) (eVar 1)) (eC m__law_draw (aCons (eVar 0) (aCons (eK (.int 2)) (aNil))))))
noncomputable def y__law_far : MS := sSeq (sSet 1 (eC (i2f fun i j => .int (minI i j)) (aCons (e2 addX (e2 (mulX false) (eC m__law_draw (aCons (eVar 0) (aCons (eK (.int 31623)) (aNil)))) (eK (.int 31623))) (eC m__law_draw (aCons (eVar 0) (aCons (eK (.int 31623)) (aNil))))) (aCons (e2 powI (eK (.int 10)) (eK (.int 9))) (aNil))))) (y__law_far_1)
noncomputable def m__law_far : DF := fn 1 2 false y__law_far
abbrev s__law_chain : Stmt := top 18
abbrev N__law_chain : List Str := ["bag", "many", "spans", "k", "way_of", "low", "at"]
abbrev P__law_chain : List Str := ["bag"]
theorem sc__law_chain : FnScope N__law_chain P__law_chain (defScope s__law_chain) := ⟨rfl, rfl, rfl, by decide +kernel, rfl, by decide +kernel, by decide +kernel⟩
noncomputable def y__law_chain_4 : MS := sRet (eVar 2)
noncomputable def l1__law_chain_1 : MS := sIf (toB (e2 (eqD false) (eVar 4) (eK (.int 4)))) (sDrop (eBM appendD (eVar 2) (aCons (eC (sortedD false) (aCons (eLst false (aCons (eC m__law_far (aCons (eVar 0) (aNil))) (aCons (eC m__law_far (aCons (eVar 0) (aNil))) (aNil)))) (aNil))) aNil))) (sIf (bOr (toB (e2 ltI (eVar 4) (eK (.int 2)))) (toB (e2 (eqD false) (eVar 3) (eK (.int 0))))) (sSeq (sSet 5 (e2 subI (eC m__law_draw (aCons (eVar 0) (aCons (eK (.int 12)) (aNil)))) (eK (.int 4)))) (sDrop (eBM appendD (eVar 2) (aCons (eLst false (aCons (eVar 5) (aCons (e2 addX (eVar 5) (eC m__law_draw (aCons (eVar 0) (aCons (eK (.int 6)) (aNil))))) (aNil)))) aNil)))) (sIf (toB (e2 (eqD false) (eVar 4) (eK (.int 2)))) (sSeq (sSet 6 (eC m__law_beside (aCons (eVar 0) (aCons (e2 ixD (eVar 2) (negI (eK (.int 1)))) (aNil))))) (sDrop (eBM appendD (eVar 2) (aCons (eLst false (aCons (eVar 6) (aCons (eVar 6) (aNil)))) aNil)))) (sDrop (eBM appendD (eVar 2) (aCons (eC (sortedD false) (aCons (eLst false (aCons (eC m__law_beside (aCons (eVar 0) (aCons (e2 ixD (eVar 2) (negI (eK (.int 1)))) (aNil)))) (aCons (eC m__law_beside (aCons (eVar 0) (aCons (e2 ixD (eVar 2) (negI (eK (.int 1)))) (aNil)))) (aNil)))) (aNil))) aNil)))))
noncomputable def l1__law_chain : MS := sSeq (sSet 4 (eC m__law_draw (aCons (eVar 0) (aCons (eK (.int 5)) (aNil))))) (l1__law_chain_1)
noncomputable def y__law_chain_3 : MS := sSeq (sFor (iR1 (eVar 1)) (gNm 3) (l1__law_chain)) (y__law_chain_4)
noncomputable def y__law_chain_2 : MS := sSeq (sSet 2 (eLst true (aNil))) (y__law_chain_3)
noncomputable def y__law_chain_1 : MS := sSeq (sIf (toB (e2 (eqD false) (eC m__law_draw (aCons (eVar 0) (aCons (eK (.int 16)) (aNil)))) (eK (.int 7)))) (sSet 1 (e2 addX (eK (.int 1)) (eC m__law_draw (aCons (eVar 0) (aCons (eK (.int 40)) (aNil)))))) (sNil)) (y__law_chain_2)
noncomputable def y__law_chain : MS := sSeq (sSet 1 (e2 addX (eK (.int 1)) (eC m__law_draw (aCons (eVar 0) (aCons (eK (.int 8)) (aNil)))))) (y__law_chain_1)
noncomputable def m__law_chain : DF := fn 1 7 false y__law_chain
abbrev s_Spanuu_inituu : Stmt := sub 4 0
abbrev N_Spanuu_inituu : List Str := ["self", "low", "high"]
abbrev P_Spanuu_inituu : List Str := ["self", "low", "high"]
theorem sc_Spanuu_inituu : FnScope N_Spanuu_inituu P_Spanuu_inituu (defScope s_Spanuu_inituu) := ⟨rfl, rfl, rfl, by decide +kernel, rfl, by decide +kernel, by decide +kernel⟩
noncomputable def y_Spanuu_inituu_2 : MS := sFldD ftL "high" (eVar 0) (eVar 2)
noncomputable def y_Spanuu_inituu_1 : MS := sSeq (sFldD ftL "low" (eVar 0) (eVar 1)) (y_Spanuu_inituu_2)
noncomputable def y_Spanuu_inituu : MS := sSeq (sIf (toB (e2 gtI (eVar 1) (eVar 2))) (sNever) (sNil)) (y_Spanuu_inituu_1)
noncomputable def m_Spanuu_inituu : DF := fn 3 3 false y_Spanuu_inituu
abbrev s__law_made : Stmt := top 26
abbrev N__law_made : List Str := ["bag", "spans", "shared", "made", "chain", "ends"]
abbrev P__law_made : List Str := ["bag", "spans"]
theorem sc__law_made : FnScope N__law_made P__law_made (defScope s__law_made) := ⟨rfl, rfl, rfl, by decide +kernel, rfl, by decide +kernel, by decide +kernel⟩
noncomputable def y__law_made_4 : MS := sRet (eC tupD (aCons (eVar 4) (aNil)))
noncomputable def l1__law_made_1 : MS := sDrop (eBM appendD (eVar 4) (aCons (e2 dgetD (eVar 3) (eTup (aCons (e2 ixD (eVar 5) (eK (.int 0))) (aCons (e2 ixD (eVar 5) (eK (.int 1))) (aNil))))) aNil))
noncomputable def l1__law_made : MS := sSeq (sIf (bOr (bNot (tru (eVar 2))) (toB (e2 (dinD true) (eTup (aCons (e2 ixD (eVar 5) (eK (.int 0))) (aCons (e2 ixD (eVar 5) (eK (.int 1))) (aNil)))) (eVar 3)))) (sPut (eVar 3) (eTup (aCons (e2 ixD (eVar 5) (eK (.int 0))) (aCons (e2 ixD (eVar 5) (eK (.int 1))) (aNil)))) (eC (mkI "Span" m_Spanuu_inituu false) (aCons (e2 ixD (eVar 5) (eK (.int 0))) (aCons (e2 ixD (eVar 5) (eK (.int 1))) (aNil))))) (sNil)) (l1__law_made_1)
noncomputable def y__law_made_3 : MS := sSeq (sFor (iVal (eVar 1)) (gNm 5) (l1__law_made)) (y__law_made_4)
noncomputable def y__law_made_2 : MS := sSeq (sSet 4 (eLst true (aNil))) (y__law_made_3)
noncomputable def y__law_made_1 : MS := sSeq (sSet 3 (eDT)) (y__law_made_2)
noncomputable def y__law_made : MS := sSeq (sSet 2 (e2 (eqD false) (eC m__law_draw (aCons (eVar 0) (aCons (eK (.int 2)) (aNil)))) (eK (.int 0)))) (y__law_made_1)
noncomputable def m__law_made : DF := fn 2 6 false y__law_made
abbrev s_Spanuu_anduu : Stmt := sub 4 7
abbrev N_Spanuu_anduu : List Str := ["self", "other", "low", "high"]
abbrev P_Spanuu_anduu : List Str := ["self", "other"]
theorem sc_Spanuu_anduu : FnScope N_Spanuu_anduu P_Spanuu_anduu (defScope s_Spanuu_anduu) := ⟨rfl, rfl, rfl, by decide +kernel, rfl, by decide +kernel, by decide +kernel⟩
noncomputable def y_Spanuu_anduu_3 : MS := sRet (eC (mkI "Span" m_Spanuu_inituu false) (aCons (eVar 2) (aCons (eVar 3) (aNil))))
noncomputable def y_Spanuu_anduu_2 : MS := sSeq (sIf (toB (e2 gtI (eVar 2) (eVar 3))) (sRet (eK .non)) (sNil)) (y_Spanuu_anduu_3)
noncomputable def y_Spanuu_anduu_1 : MS := sSeq (sSet 3 (eC (i2f fun i j => .int (minI i j)) (aCons (eFld ftL "high" (eVar 0)) (aCons (eFld ftL "high" (eVar 1)) (aNil))))) (y_Spanuu_anduu_2)
noncomputable def y_Spanuu_anduu : MS := sSeq (sSet 2 (eC (i2f fun i j => .int (maxI i j)) (aCons (eFld ftL "low" (eVar 0)) (aCons (eFld ftL "low" (eVar 1)) (aNil))))) (y_Spanuu_anduu_1)
noncomputable def m_Spanuu_anduu : DF := fn 2 4 false y_Spanuu_anduu
abbrev s_runs : Stmt := top 7
abbrev N_runs : List Str := ["chain", "pairs", "first", "shared", "index", "span", "narrowed"]
abbrev P_runs : List Str := ["chain"]
theorem sc_runs : FnScope N_runs P_runs (defScope s_runs) := ⟨rfl, rfl, rfl, by decide +kernel, rfl, by decide +kernel, by decide +kernel⟩
noncomputable def y_runs_5 : MS := sRet (eVar 1)
noncomputable def y_runs_4 : MS := sSeq (sDrop (eBM appendD (eVar 1) (aCons (eTup (aCons (eVar 2) (aCons (e2 subI (eC lenD (aCons (eVar 0) (aNil))) (eK (.int 1))) (aNil)))) aNil))) (y_runs_5)
noncomputable def l1_runs_2 : MS := sIf (toB (e2 (isN false) (eVar 6) (eK .non))) (sSeq (sDrop (eBM appendD (eVar 1) (aCons (eTup (aCons (eVar 2) (aCons (e2 subI (eVar 4) (eK (.int 1))) (aNil)))) aNil))) (sSeq (sSet 2 (eVar 4)) (sSet 3 (eVar 5)))) (sSet 3 (eVar 6))
noncomputable def l1_runs_1 : MS := sSeq (sSet 6 (e2 (bothD [("Span", m_Spanuu_anduu)]) (eVar 3) (eVar 5))) (l1_runs_2)
noncomputable def l1_runs : MS := sSeq (sSet 5 (e2 ixD (eVar 0) (eVar 4))) (l1_runs_1)
noncomputable def y_runs_3 : MS := sSeq (sFor (iR2 (eK (.int 1)) (eC lenD (aCons (eVar 0) (aNil)))) (gNm 4) (l1_runs)) (y_runs_4)
noncomputable def y_runs_2 : MS := sSeq (sSet 3 (e2 ixD (eVar 0) (eK (.int 0)))) (y_runs_3)
noncomputable def y_runs_1 : MS := sSeq (sSet 2 (eK (.int 0))) (y_runs_2)
noncomputable def y_runs : MS := sSeq (sSet 1 (eLst true (aNil))) (y_runs_1)
noncomputable def m_runs : DF := fn 1 7 false y_runs
noncomputable def mL_runs : DF := fn 1 7 true y_runs
abbrev s_common : Stmt := top 5
abbrev N_common : List Str := ["spans", "shared", "span"]
abbrev P_common : List Str := ["spans"]
theorem sc_common : FnScope N_common P_common (defScope s_common) := ⟨rfl, rfl, rfl, by decide +kernel, rfl, by decide +kernel, by decide +kernel⟩
noncomputable def y_common_2 : MS := sRet (eVar 1)
noncomputable def l1_common_1 : MS := sIf (toB (e2 (isN false) (eVar 1) (eK .non))) (sRet (eK .non)) (sNil)
noncomputable def l1_common : MS := sSeq (sSet 1 (e2 (bothD [("Span", m_Spanuu_anduu)]) (eVar 1) (eVar 2))) (l1_common_1)
noncomputable def y_common_1 : MS := sSeq (sFor (iVal (eSl (eVar 0) (oSome (eK (.int 1))) (oNone))) (gNm 2) (l1_common)) (y_common_2)
noncomputable def y_common : MS := sSeq (sSet 1 (e2 ixD (eVar 0) (eK (.int 0)))) (y_common_1)
noncomputable def m_common : DF := fnStar 3 false y_common
abbrev s_Span_nearest : Stmt := sub 4 3
abbrev N_Span_nearest : List Str := ["self", "x"]
abbrev P_Span_nearest : List Str := ["self", "x"]
theorem sc_Span_nearest : FnScope N_Span_nearest P_Span_nearest (defScope s_Span_nearest) := ⟨rfl, rfl, rfl, by decide +kernel, rfl, by decide +kernel, by decide +kernel⟩
noncomputable def y_Span_nearest_2 : MS := sRet (eVar 1)
noncomputable def y_Span_nearest_1 : MS := sSeq (sIf (toB (e2 gtI (eVar 1) (eFld ftL "high" (eVar 0)))) (sRet (eFld ftL "high" (eVar 0))) (sNil)) (y_Span_nearest_2)
noncomputable def y_Span_nearest : MS := sSeq (sIf (toB (e2 ltI (eVar 1) (eFld ftL "low" (eVar 0)))) (sRet (eFld ftL "low" (eVar 0))) (sNil)) (y_Span_nearest_1)
noncomputable def m_Span_nearest : DF := fn 2 2 false y_Span_nearest
abbrev s_way : Stmt := top 8
abbrev N_way : List Str := ["chain", "stops", "first", "last", "spans", "shared", "stop", "_"]
abbrev P_way : List Str := ["chain"]
theorem sc_way : FnScope N_way P_way (defScope s_way) := ⟨rfl, rfl, rfl, by decide +kernel, rfl, by decide +kernel, by decide +kernel⟩
noncomputable def y_way_2 : MS := sRet (eC tupD (aCons (eVar 1) (aNil)))
noncomputable def l2_way : MS := sDrop (eBM appendD (eVar 1) (aCons (eVar 6) aNil))
noncomputable def l1_way_3 : MS := sFor (iVal (eVar 4)) (gNm 7) (l2_way)
noncomputable def l1_way_2 : MS := sSeq (sIf (toB (e2 (eqD false) (eVar 2) (eK (.int 0)))) (sSet 6 (eFld ftL "low" (eVar 5))) (sSet 6 (eMeth [("Span", "nearest", m_Span_nearest)] "nearest" (eVar 5) (aCons (e2 ixD (eVar 1) (negI (eK (.int 1)))) (aNil))))) (l1_way_3)
noncomputable def l1_way_1 : MS := sSeq (sSet 5 (eStar1 m_common (eVar 4))) (l1_way_2)
noncomputable def l1_way : MS := sSeq (sSet 4 (eSl (eVar 0) (oSome (eVar 2)) (oSome (e2 addX (eVar 3) (eK (.int 1)))))) (l1_way_1)
noncomputable def y_way_1 : MS := sSeq (sFor (iVal (eC m_runs (aCons (eVar 0) (aNil)))) (gTu 2 (gsCons (gNm 2) (gsCons (gNm 3) (gsNil)))) (l1_way)) (y_way_2)
noncomputable def y_way : MS := sSeq (sSet 1 (eLst true (aNil))) (y_way_1)
noncomputable def m_way : DF := fn 1 8 false y_way
abbrev s__law_fewest : Stmt := top 23
abbrev N__law_fewest : List Str := ["spans", "values", "tolls", "best", "n", "now", "k", "toll", "value", "ends"]
abbrev P__law_fewest : List Str := ["spans"]
theorem sc__law_fewest : FnScope N__law_fewest P__law_fewest (defScope s__law_fewest) := ⟨rfl, rfl, rfl, by decide +kernel, rfl, by decide +kernel, by decide +kernel⟩
noncomputable def y__law_fewest_4 : MS := sRet (eVar 3)
noncomputable def l1__law_fewest_3 : MS := sSet 3 (eC (intsD minL) (aCons (eComp false (iVal (eVar 2)) (gNm 7) (toB (e2 geI (eVar 7) (eK (.int 0)))) (eVar 7) [7]) (aNil)))
noncomputable def l1__law_fewest_2 : MS := sSeq (sSet 2 (eVar 5)) (l1__law_fewest_3)
noncomputable def l2__law_fewest_2 : MS := sDrop (eBM appendD (eVar 5) (aCons (eVar 7) aNil))
noncomputable def l2__law_fewest_1 : MS := sSeq (sIf (bAnd (toB (e2 leI (e2 ixD (e2 ixD (eVar 0) (eVar 4)) (eK (.int 0))) (e2 ixD (eVar 1) (eVar 6)))) (toB (e2 leI (e2 ixD (eVar 1) (eVar 6)) (e2 ixD (e2 ixD (eVar 0) (eVar 4)) (eK (.int 1)))))) (sSeq (sSet 7 (e2 addX (eVar 3) (eC intD (aCons (e2 gtI (eVar 4) (eK (.int 0))) (aNil))))) (sIf (toB (e2 geI (e2 ixD (eVar 2) (eVar 6)) (eK (.int 0)))) (sSet 7 (eC (i2f fun i j => .int (minI i j)) (aCons (eVar 7) (aCons (e2 ixD (eVar 2) (eVar 6)) (aNil))))) (sNil))) (sNil)) (l2__law_fewest_2)
noncomputable def l2__law_fewest : MS := sSeq (sSet 7 (negI (eK (.int 1)))) (l2__law_fewest_1)
noncomputable def l1__law_fewest_1 : MS := sSeq (sFor (iR1 (eC lenD (aCons (eVar 1) (aNil)))) (gNm 6) (l2__law_fewest)) (l1__law_fewest_2)
noncomputable def l1__law_fewest : MS := sSeq (sSet 5 (eLst true (aNil))) (l1__law_fewest_1)
noncomputable def y__law_fewest_3 : MS := sSeq (sFor (iR1 (eC lenD (aCons (eVar 0) (aNil)))) (gNm 4) (l1__law_fewest)) (y__law_fewest_4)
noncomputable def y__law_fewest_2 : MS := sSeq (sSet 3 (eK (.int 0))) (y__law_fewest_3)
noncomputable def y__law_fewest_1 : MS := sSeq (sSet 2 (eComp false (iVal (eVar 1)) (gNm 8) (bYes) (eK (.int 0)) [8])) (y__law_fewest_2)
noncomputable def y__law_fewest : MS := sSeq (sSet 1 (eC (usortD false) (aCons (eComp false (iVal (eVar 0)) (gNm 9) (bYes) (e2 ixD (eVar 9) (eK (.int 0))) [9]) aNil))) (y__law_fewest_1)
noncomputable def m__law_fewest : DF := fn 1 10 false y__law_fewest
abbrev s_bends : Stmt := top 9
abbrev N_bends : List Str := ["stops", "index"]
abbrev P_bends : List Str := ["stops"]
theorem sc_bends : FnScope N_bends P_bends (defScope s_bends) := ⟨rfl, rfl, rfl, by decide +kernel, rfl, by decide +kernel, by decide +kernel⟩
noncomputable def y_bends : MS := sRet (eC lenD (aCons (eComp false (iR2 (eK (.int 1)) (eC lenD (aCons (eVar 0) (aNil)))) (gNm 1) (toB (e2 (eqD true) (e2 ixD (eVar 0) (eVar 1)) (e2 ixD (eVar 0) (e2 subI (eVar 1) (eK (.int 1)))))) (eVar 1) [1]) (aNil)))
noncomputable def m_bends : DF := fn 1 2 false y_bends
abbrev s__law_row : Stmt := top 19
abbrev N__law_row : List Str := ["bag", "spans", "row", "ends", "way_of", "at"]
abbrev P__law_row : List Str := ["bag", "spans"]
theorem sc__law_row : FnScope N__law_row P__law_row (defScope s__law_row) := ⟨rfl, rfl, rfl, by decide +kernel, rfl, by decide +kernel, by decide +kernel⟩
noncomputable def y__law_row_2 : MS := sRet (eVar 2)
noncomputable def l1__law_row_3 : MS := sDrop (eBM appendD (eVar 2) (aCons (eVar 5) aNil))
noncomputable def l1__law_row_2 : MS := sSeq (sIf (toB (e2 (eqD false) (eVar 4) (eK (.int 1)))) (sSet 5 (e2 ixD (eVar 3) (eK (.int 1)))) (sIf (toB (e2 (eqD false) (eVar 4) (eK (.int 2)))) (sSet 5 (e2 divI (e2 addX (e2 ixD (eVar 3) (eK (.int 0))) (e2 ixD (eVar 3) (eK (.int 1)))) (eK (.int 2)))) (sIf (toB (e2 (eqD false) (eVar 4) (eK (.int 3)))) (sSet 5 (e2 addX (e2 ixD (eVar 3) (eK (.int 0))) (eC m__law_draw (aCons (eVar 0) (aCons (e2 addX (e2 subI (e2 ixD (eVar 3) (eK (.int 1))) (e2 ixD (eVar 3) (eK (.int 0)))) (eK (.int 1))) (aNil)))))) (sIf (bAnd (toB (e2 gtI (eVar 4) (eK (.int 4)))) (toB (e2 gtI (eC lenD (aCons (eVar 2) (aNil))) (eK (.int 0))))) (sSet 5 (eC (i2f fun i j => .int (maxI i j)) (aCons (e2 ixD (eVar 3) (eK (.int 0))) (aCons (eC (i2f fun i j => .int (minI i j)) (aCons (e2 ixD (eVar 2) (negI (eK (.int 1)))) (aCons (e2 ixD (eVar 3) (eK (.int 1))) (aNil)))) (aNil))))) (sNil))))) (l1__law_row_3)
noncomputable def l1__law_row_1 : MS := sSeq (sSet 5 (e2 ixD (eVar 3) (eK (.int 0)))) (l1__law_row_2)
noncomputable def l1__law_row : MS := sSeq (sSet 4 (eC m__law_draw (aCons (eVar 0) (aCons (eK (.int 8)) (aNil))))) (l1__law_row_1)
noncomputable def y__law_row_1 : MS := sSeq (sFor (iVal (eVar 1)) (gNm 3) (l1__law_row)) (y__law_row_2)
noncomputable def y__law_row : MS := sSeq (sSet 2 (eLst true (aNil))) (y__law_row_1)
noncomputable def m__law_row : DF := fn 2 6 false y__law_row
abbrev s__law_shared : Stmt := top 20
abbrev N__law_shared : List Str := ["spans", "low", "high", "ends"]
abbrev P__law_shared : List Str := ["spans"]
theorem sc__law_shared : FnScope N__law_shared P__law_shared (defScope s__law_shared) := ⟨rfl, rfl, rfl, by decide +kernel, rfl, by decide +kernel, by decide +kernel⟩
noncomputable def y__law_shared_3 : MS := sRet (eLst false (aCons (eVar 1) (aCons (eVar 2) (aNil))))
noncomputable def y__law_shared_2 : MS := sSeq (sIf (toB (e2 gtI (eVar 1) (eVar 2))) (sRet (eK .non)) (sNil)) (y__law_shared_3)
noncomputable def y__law_shared_1 : MS := sSeq (sSet 2 (e2 ixD (eC (sortedD false) (aCons (eComp false (iVal (eVar 0)) (gNm 3) (bYes) (e2 ixD (eVar 3) (eK (.int 1))) [3]) (aNil))) (eK (.int 0)))) (y__law_shared_2)
noncomputable def y__law_shared : MS := sSeq (sSet 1 (e2 ixD (eC (sortedD false) (aCons (eComp false (iVal (eVar 0)) (gNm 3) (bYes) (e2 ixD (eVar 3) (eK (.int 0))) [3]) (aNil))) (negI (eK (.int 1))))) (y__law_shared_1)
noncomputable def m__law_shared : DF := fn 1 4 false y__law_shared
abbrev s__law_whole : Stmt := top 14
abbrev N__law_whole : List Str := ["got"]
abbrev P__law_whole : List Str := ["got"]
theorem sc__law_whole : FnScope N__law_whole P__law_whole (defScope s__law_whole) := ⟨rfl, rfl, rfl, by decide +kernel, rfl, by decide +kernel, by decide +kernel⟩
noncomputable def y__law_whole : MS := sRet (eAnd (eC (isiD csL itL) (aCons (eVar 0) (aCons (eK (.ty "int")) (aNil)))) (eNot (eC (isiD csL itL) (aCons (eVar 0) (aCons (eK (.ty "bool")) (aNil))))))
noncomputable def m__law_whole : DF := fn 1 1 false y__law_whole
abbrev s__law_wholes : Stmt := top 15
abbrev N__law_wholes : List Str := ["got", "many", "one"]
abbrev P__law_wholes : List Str := ["got", "many"]
theorem sc__law_wholes : FnScope N__law_wholes P__law_wholes (defScope s__law_wholes) := ⟨rfl, rfl, rfl, by decide +kernel, rfl, by decide +kernel, by decide +kernel⟩
noncomputable def y__law_wholes_2 : MS := sRet (eK (.bl true))
noncomputable def l1__law_wholes : MS := sIf (bNot (tru (eC m__law_whole (aCons (eVar 2) (aNil))))) (sRet (eK (.bl false))) (sNil)
noncomputable def y__law_wholes_1 : MS := sSeq (sFor (iVal (eVar 0)) (gNm 2) (l1__law_wholes)) (y__law_wholes_2)
noncomputable def y__law_wholes : MS := sSeq (sIf (bOr (bNot (tru (eC (isiD csL itL) (aCons (eVar 0) (aCons (eK (.ty "tuple")) (aNil)))))) (toB (e2 (eqD true) (eC lenD (aCons (eVar 0) (aNil))) (eVar 1)))) (sRet (eK (.bl false))) (sNil)) (y__law_wholes_1)
noncomputable def m__law_wholes : DF := fn 2 3 false y__law_wholes
abbrev s__law_are_runs : Stmt := top 21
abbrev N__law_are_runs : List Str := ["spans", "told", "start", "pair"]
abbrev P__law_are_runs : List Str := ["spans", "told"]
theorem sc__law_are_runs : FnScope N__law_are_runs P__law_are_runs (defScope s__law_are_runs) := ⟨rfl, rfl, rfl, by decide +kernel, rfl, by decide +kernel, by decide +kernel⟩
noncomputable def y__law_are_runs_3 : MS := sRet (e2 (eqD false) (eVar 2) (eC lenD (aCons (eVar 0) (aNil))))
noncomputable def l1__law_are_runs_3 : MS := sSet 2 (e2 addX (e2 ixD (eVar 3) (eK (.int 1))) (eK (.int 1)))
noncomputable def l1__law_are_runs_2 : MS := sSeq (sIf (bAnd (toB (e2 ltI (e2 addX (e2 ixD (eVar 3) (eK (.int 1))) (eK (.int 1))) (eC lenD (aCons (eVar 0) (aNil))))) (toB (e2 (isN true) (eC m__law_shared (aCons (eSl (eVar 0) (oSome (eVar 2)) (oSome (e2 addX (e2 ixD (eVar 3) (eK (.int 1))) (eK (.int 2))))) (aNil))) (eK .non)))) (sRet (eK (.bl false))) (sNil)) (l1__law_are_runs_3)
noncomputable def l1__law_are_runs_1 : MS := sSeq (sIf (toB (e2 (isN false) (eC m__law_shared (aCons (eSl (eVar 0) (oSome (eVar 2)) (oSome (e2 addX (e2 ixD (eVar 3) (eK (.int 1))) (eK (.int 1))))) (aNil))) (eK .non))) (sRet (eK (.bl false))) (sNil)) (l1__law_are_runs_2)
noncomputable def l1__law_are_runs : MS := sSeq (sIf (bOr (bNot (tru (eC m__law_wholes (aCons (eVar 3) (aCons (eK (.int 2)) (aNil)))))) (bOr (toB (e2 (eqD true) (e2 ixD (eVar 3) (eK (.int 0))) (eVar 2))) (bOr (toB (e2 ltI (e2 ixD (eVar 3) (eK (.int 1))) (eVar 2))) (toB (e2 geI (e2 ixD (eVar 3) (eK (.int 1))) (eC lenD (aCons (eVar 0) (aNil)))))))) (sRet (eK (.bl false))) (sNil)) (l1__law_are_runs_1)
noncomputable def y__law_are_runs_2 : MS := sSeq (sFor (iVal (eVar 1)) (gNm 3) (l1__law_are_runs)) (y__law_are_runs_3)
noncomputable def y__law_are_runs_1 : MS := sSeq (sSet 2 (eK (.int 0))) (y__law_are_runs_2)
noncomputable def y__law_are_runs : MS := sSeq (sIf (bNot (tru (eC (isiD csL itL) (aCons (eVar 1) (aCons (eK (.ty "list")) (aNil)))))) (sRet (eK (.bl false))) (sNil)) (y__law_are_runs_1)
noncomputable def m__law_are_runs : DF := fn 2 4 false y__law_are_runs
abbrev s__law_lies : Stmt := top 25
abbrev N__law_lies : List Str := ["spans", "stops", "k"]
abbrev P__law_lies : List Str := ["spans", "stops"]
theorem sc__law_lies : FnScope N__law_lies P__law_lies (defScope s__law_lies) := ⟨rfl, rfl, rfl, by decide +kernel, rfl, by decide +kernel, by decide +kernel⟩
noncomputable def y__law_lies_2 : MS := sRet (eK (.bl true))
noncomputable def l1__law_lies : MS := sIf (bOr (toB (e2 ltI (e2 ixD (eVar 1) (eVar 2)) (e2 ixD (e2 ixD (eVar 0) (eVar 2)) (eK (.int 0))))) (toB (e2 gtI (e2 ixD (eVar 1) (eVar 2)) (e2 ixD (e2 ixD (eVar 0) (eVar 2)) (eK (.int 1)))))) (sRet (eK (.bl false))) (sNil)
noncomputable def y__law_lies_1 : MS := sSeq (sFor (iR1 (eC lenD (aCons (eVar 0) (aNil)))) (gNm 2) (l1__law_lies)) (y__law_lies_2)
noncomputable def y__law_lies : MS := sSeq (sIf (bNot (tru (eC m__law_wholes (aCons (eVar 1) (aCons (eC lenD (aCons (eVar 0) (aNil))) (aNil)))))) (sRet (eK (.bl false))) (sNil)) (y__law_lies_1)
noncomputable def m__law_lies : DF := fn 2 3 false y__law_lies
abbrev s__law_due_way : Stmt := top 22
abbrev N__law_due_way : List Str := ["spans", "pairs", "stops", "pair", "shared", "at", "turn"]
abbrev P__law_due_way : List Str := ["spans", "pairs"]
theorem sc__law_due_way : FnScope N__law_due_way P__law_due_way (defScope s__law_due_way) := ⟨rfl, rfl, rfl, by decide +kernel, rfl, by decide +kernel, by decide +kernel⟩
noncomputable def y__law_due_way_2 : MS := sRet (eC tupD (aCons (eVar 2) (aNil)))
noncomputable def l2__law_due_way : MS := sDrop (eBM appendD (eVar 2) (aCons (eVar 5) aNil))
noncomputable def l1__law_due_way_3 : MS := sFor (iR2 (e2 ixD (eVar 3) (eK (.int 0))) (e2 addX (e2 ixD (eVar 3) (eK (.int 1))) (eK (.int 1)))) (gNm 6) (l2__law_due_way)
noncomputable def l1__law_due_way_2 : MS := sSeq (sIf (toB (e2 gtI (eC lenD (aCons (eVar 2) (aNil))) (eK (.int 0)))) (sSet 5 (e2 ixD (eC (sortedD false) (aCons (eLst false (aCons (e2 ixD (eVar 4) (eK (.int 0))) (aCons (e2 ixD (eVar 2) (negI (eK (.int 1)))) (aCons (e2 ixD (eVar 4) (eK (.int 1))) (aNil))))) (aNil))) (eK (.int 1)))) (sNil)) (l1__law_due_way_3)
noncomputable def l1__law_due_way_1 : MS := sSeq (sSet 5 (e2 ixD (eVar 4) (eK (.int 0)))) (l1__law_due_way_2)
noncomputable def l1__law_due_way : MS := sSeq (sSet 4 (eC m__law_shared (aCons (eSl (eVar 0) (oSome (e2 ixD (eVar 3) (eK (.int 0)))) (oSome (e2 addX (e2 ixD (eVar 3) (eK (.int 1))) (eK (.int 1))))) (aNil)))) (l1__law_due_way_1)
noncomputable def y__law_due_way_1 : MS := sSeq (sFor (iVal (eVar 1)) (gNm 3) (l1__law_due_way)) (y__law_due_way_2)
noncomputable def y__law_due_way : MS := sSeq (sSet 2 (eLst true (aNil))) (y__law_due_way_1)
noncomputable def m__law_due_way : DF := fn 2 7 false y__law_due_way
abbrev s__law_bends : Stmt := top 24
abbrev N__law_bends : List Str := ["stops", "k"]
abbrev P__law_bends : List Str := ["stops"]
theorem sc__law_bends : FnScope N__law_bends P__law_bends (defScope s__law_bends) := ⟨rfl, rfl, rfl, by decide +kernel, rfl, by decide +kernel, by decide +kernel⟩
noncomputable def y__law_bends : MS := sRet (eC lenD (aCons (eComp false (iR1 (e2 subI (eC lenD (aCons (eVar 0) (aNil))) (eK (.int 1)))) (gNm 1) (toB (e2 (eqD true) (e2 ixD (eVar 0) (eVar 1)) (e2 ixD (eVar 0) (e2 addX (eVar 1) (eK (.int 1)))))) (eVar 1) [1]) (aNil)))
noncomputable def m__law_bends : DF := fn 1 2 false y__law_bends
abbrev s_law : Stmt := top 27
abbrev N_law : List Str := ["script", "bag", "spans", "rows", "chain", "told", "stops", "fewest", "many", "row", "back", "none", "kept", "one", "turn"]
abbrev P_law : List Str := ["script"]
theorem sc_law : FnScope N_law P_law (defScope s_law) := ⟨rfl, rfl, rfl, by decide +kernel, rfl, by decide +kernel, by decide +kernel⟩
noncomputable def y_law_19 : MS := sRet (e2 (eqD false) (eComp false (iVal (eVar 4)) (gNm 13) (bYes) (eLst false (aCons (eFld ftL "low" (eVar 13)) (aCons (eFld ftL "high" (eVar 13)) (aNil)))) [13]) (eVar 2))
noncomputable def y_law_18 : MS := sSeq (sIf (bOr (toB (e2 (eqD true) (eC m_runs (aCons (eVar 4) (aNil))) (eVar 12))) (toB (e2 (eqD true) (eC m_way (aCons (eVar 4) (aNil))) (eVar 6)))) (sRet (eK (.bl false))) (sNil)) (y_law_19)
noncomputable def y_law_17 : MS := sSeq (sDrop (eBM appendD (eVar 5) (aCons (eTup (aCons (eK (.int 0)) (aCons (eK (.int 0)) (aNil)))) aNil))) (y_law_18)
noncomputable def y_law_16 : MS := sSeq (sSet 12 (eC (listD false) (aCons (eVar 5) (aNil)))) (y_law_17)
noncomputable def y_law_15 : MS := sSeq (sIf (bOr (bNot (tru (eC m__law_whole (aCons (eVar 11) (aNil))))) (toB (e2 (eqD true) (eVar 11) (eK (.int 0))))) (sRet (eK (.bl false))) (sNil)) (y_law_16)
noncomputable def y_law_14 : MS := sSeq (sSet 11 (eC m_bends (aCons (eTup (aNil)) (aNil)))) (y_law_15)
noncomputable def y_law_13 : MS := sSeq (sIf (bOr (bNot (tru (eC m__law_lies (aCons (eRev false (eVar 2)) (aCons (eVar 10) (aNil)))))) (toB (e2 (eqD true) (eC m__law_bends (aCons (eVar 10) (aNil))) (eVar 7)))) (sRet (eK (.bl false))) (sNil)) (y_law_14)
noncomputable def y_law_12 : MS := sSeq (sSet 10 (eC m_way (aCons (eRev false (eVar 4)) (aNil)))) (y_law_13)
noncomputable def l1_law_1 : MS := sIf (bOr (bNot (tru (eC m__law_whole (aCons (eVar 8) (aNil))))) (bOr (toB (e2 (eqD true) (eVar 8) (eC m__law_bends (aCons (eVar 9) (aNil))))) (toB (e2 ltI (eVar 8) (eVar 7))))) (sRet (eK (.bl false))) (sNil)
noncomputable def l1_law : MS := sSeq (sSet 8 (eC m_bends (aCons (eC tupD (aCons (eVar 9) (aNil))) (aNil)))) (l1_law_1)
noncomputable def y_law_11 : MS := sSeq (sFor (iVal (eVar 3)) (gNm 9) (l1_law)) (y_law_12)
noncomputable def y_law_10 : MS := sSeq (sIf (bOr (bNot (tru (eC m__law_whole (aCons (eVar 8) (aNil))))) (bOr (toB (e2 (eqD true) (eVar 8) (eVar 7))) (toB (e2 (eqD true) (eC lenD (aCons (eVar 5) (aNil))) (e2 addX (eVar 7) (eK (.int 1))))))) (sRet (eK (.bl false))) (sNil)) (y_law_11)
noncomputable def y_law_9 : MS := sSeq (sSet 8 (eC m_bends (aCons (eVar 6) (aNil)))) (y_law_10)
noncomputable def y_law_8 : MS := sSeq (sSet 7 (eC m__law_fewest (aCons (eVar 2) (aNil)))) (y_law_9)
noncomputable def y_law_7 : MS := sSeq (sIf (bOr (bNot (tru (eC m__law_lies (aCons (eVar 2) (aCons (eVar 6) (aNil)))))) (toB (e2 (eqD true) (eVar 6) (eC m__law_due_way (aCons (eVar 2) (aCons (eVar 5) (aNil))))))) (sRet (eK (.bl false))) (sNil)) (y_law_8)
noncomputable def y_law_6 : MS := sSeq (sSet 6 (eC m_way (aCons (eVar 4) (aNil)))) (y_law_7)
noncomputable def y_law_5 : MS := sSeq (sIf (bNot (tru (eC m__law_are_runs (aCons (eVar 2) (aCons (eVar 5) (aNil)))))) (sRet (eK (.bl false))) (sNil)) (y_law_6)
noncomputable def y_law_4 : MS := sSeq (sSet 5 (eC mL_runs (aCons (eVar 4) (aNil)))) (y_law_5)
noncomputable def y_law_3 : MS := sSeq (sSet 4 (eC m__law_made (aCons (eVar 1) (aCons (eVar 2) (aNil))))) (y_law_4)
noncomputable def y_law_2 : MS := sSeq (sSet 3 (eComp false (iR1 (eK (.int 3))) (gNm 14) (bYes) (eC m__law_row (aCons (eVar 1) (aCons (eVar 2) (aNil)))) [14])) (y_law_3)
noncomputable def y_law_1 : MS := sSeq (sSet 2 (eC m__law_chain (aCons (eVar 1) (aNil)))) (y_law_2)
noncomputable def y_law : MS := sSeq (sSet 1 (eC m__law_bag (aCons (eVar 0) (aNil)))) (y_law_1)
noncomputable def m_law : DF := fn 1 15 false y_law
def dd__law_bag : He.DefD := ⟨("_law_bag", none), "_law_bag", "_law_bag", defArgs s__law_bag, defBody s__law_bag, defScope s__law_bag, [], []⟩
def dd__law_draw : He.DefD := ⟨("_law_draw", none), "_law_draw", "_law_draw", defArgs s__law_draw, defBody s__law_draw, defScope s__law_draw, [], []⟩
def dd__law_pick : He.DefD := ⟨("_law_pick", none), "_law_pick", "_law_pick", defArgs s__law_pick, defBody s__law_pick, defScope s__law_pick, [], []⟩
def dd__law_beside : He.DefD := ⟨("_law_beside", none), "_law_beside", "_law_beside", defArgs s__law_beside, defBody s__law_beside, defScope s__law_beside, [], []⟩
def dd__law_far : He.DefD := ⟨("_law_far", none), "_law_far", "_law_far", defArgs s__law_far, defBody s__law_far, defScope s__law_far, [], []⟩
def dd__law_chain : He.DefD := ⟨("_law_chain", none), "_law_chain", "_law_chain", defArgs s__law_chain, defBody s__law_chain, defScope s__law_chain, [], []⟩
def dd_Spanuu_inituu : He.DefD := ⟨("Span", some "__init__"), "__init__", "Span.__init__", defArgs s_Spanuu_inituu, defBody s_Spanuu_inituu, defScope s_Spanuu_inituu, [], []⟩
def dd__law_made : He.DefD := ⟨("_law_made", none), "_law_made", "_law_made", defArgs s__law_made, defBody s__law_made, defScope s__law_made, [], []⟩
def dd_Spanuu_anduu : He.DefD := ⟨("Span", some "__and__"), "__and__", "Span.__and__", defArgs s_Spanuu_anduu, defBody s_Spanuu_anduu, defScope s_Spanuu_anduu, [], []⟩
def dd_runs : He.DefD := ⟨("runs", none), "runs", "runs", defArgs s_runs, defBody s_runs, defScope s_runs, [], []⟩
def dd_common : He.DefD := ⟨("common", none), "common", "common", defArgs s_common, defBody s_common, defScope s_common, [], []⟩
def dd_Span_nearest : He.DefD := ⟨("Span", some "nearest"), "nearest", "Span.nearest", defArgs s_Span_nearest, defBody s_Span_nearest, defScope s_Span_nearest, [], []⟩
def dd_way : He.DefD := ⟨("way", none), "way", "way", defArgs s_way, defBody s_way, defScope s_way, [], []⟩
def dd__law_fewest : He.DefD := ⟨("_law_fewest", none), "_law_fewest", "_law_fewest", defArgs s__law_fewest, defBody s__law_fewest, defScope s__law_fewest, [], []⟩
def dd_bends : He.DefD := ⟨("bends", none), "bends", "bends", defArgs s_bends, defBody s_bends, defScope s_bends, [], []⟩
def dd__law_row : He.DefD := ⟨("_law_row", none), "_law_row", "_law_row", defArgs s__law_row, defBody s__law_row, defScope s__law_row, [], []⟩
def dd__law_shared : He.DefD := ⟨("_law_shared", none), "_law_shared", "_law_shared", defArgs s__law_shared, defBody s__law_shared, defScope s__law_shared, [], []⟩
def dd__law_whole : He.DefD := ⟨("_law_whole", none), "_law_whole", "_law_whole", defArgs s__law_whole, defBody s__law_whole, defScope s__law_whole, [], []⟩
def dd__law_wholes : He.DefD := ⟨("_law_wholes", none), "_law_wholes", "_law_wholes", defArgs s__law_wholes, defBody s__law_wholes, defScope s__law_wholes, [], []⟩
def dd__law_are_runs : He.DefD := ⟨("_law_are_runs", none), "_law_are_runs", "_law_are_runs", defArgs s__law_are_runs, defBody s__law_are_runs, defScope s__law_are_runs, [], []⟩
def dd__law_lies : He.DefD := ⟨("_law_lies", none), "_law_lies", "_law_lies", defArgs s__law_lies, defBody s__law_lies, defScope s__law_lies, [], []⟩
def dd__law_due_way : He.DefD := ⟨("_law_due_way", none), "_law_due_way", "_law_due_way", defArgs s__law_due_way, defBody s__law_due_way, defScope s__law_due_way, [], []⟩
def dd__law_bends : He.DefD := ⟨("_law_bends", none), "_law_bends", "_law_bends", defArgs s__law_bends, defBody s__law_bends, defScope s__law_bends, [], []⟩
def dd_law : He.DefD := ⟨("law", none), "law", "law", defArgs s_law, defBody s_law, defScope s_law, [], []⟩
def fn : List He.DefD := [dd__law_bag, dd__law_draw, dd__law_pick, dd__law_beside, dd__law_far, dd__law_chain, dd_Spanuu_inituu, dd__law_made, dd_Spanuu_anduu, dd_runs, dd_common, dd_Span_nearest, dd_way, dd__law_fewest, dd_bends, dd__law_row, dd__law_shared, dd__law_whole, dd__law_wholes, dd__law_are_runs, dd__law_lies, dd__law_due_way, dd__law_bends, dd_law]
def fa : List He.Fa := [.free "abs", .free "int", .free "len", .free "max", .free "min", .free "range", .free "sorted", .free "tuple", .free "set", .free "isinstance", .free "bool", .free "list", .cls "Span", .noat "Span" "high", .noat "Span" "low", .glo "_law_bag", .glo "_law_draw", .glo "_law_pick", .glo "_law_beside", .glo "_law_far", .glo "_law_chain", .glo "Span", .mkr "Span", .glo "_law_made", .meth "Span" "__and__", .glo "runs", .glo "common", .meth "Span" "nearest", .glo "way", .glo "_law_fewest", .glo "bends", .glo "_law_row", .glo "_law_shared", .glo "_law_whole", .glo "_law_wholes", .glo "_law_are_runs", .glo "_law_lies", .glo "_law_due_way", .glo "_law_bends", .glo "law"]
def xf : XF := fun K => [PySem.W.selfFirst K (He.ga K "Span")]
theorem ft_ok {w : World} {K : PySem.W.Frag} {mg : Str → Option Value} (C : HC fa fn xf w K mg) : FlOk K ftL := (FlOk.cons ⟨He.cls_ok (C.fact 12 rfl), He.noat_ok (C.fact 14 rfl)⟩ (FlOk.cons ⟨He.cls_ok (C.fact 12 rfl), He.noat_ok (C.fact 13 rfl)⟩ FlOk.nil))
theorem cs_ok {w : World} {K : PySem.W.Frag} {mg : Str → Option Value} (C : HC fa fn xf w K mg) : ∀ k ∈ csL, TyC K k := fun k hk => by
  cases hk
theorem it_ok {w : World} {K : PySem.W.Frag} {mg : Str → Option Value} (C : HC fa fn xf w K mg) : ItOk K itL := (ItOk.cons (kit_ty (by decide +kernel)) (ItOk.cons (kit_ty (by decide +kernel)) (ItOk.cons (kit_ty (by decide +kernel)) (ItOk.cons (kit_ty (by decide +kernel)) (ItOk.cons (kit_ty (by decide +kernel)) (ItOk.cons (kit_ty (by decide +kernel)) (ItOk.cons (kit_ty (by decide +kernel)) (ItOk.cons (kit_ty (by decide +kernel)) (ItOk.cons (kit_ty (by decide +kernel)) (ItOk.cons (kit_ty (by decide +kernel)) (ItOk.cons (kit_ty (by decide +kernel)) (ItOk.cons (kit_ty (by decide +kernel)) (ItOk.cons (kit_ty (by decide +kernel)) (ItOk.cons (kit_ty (by decide +kernel)) (ItOk.cons (kit_ty (by decide +kernel)) (ItOk.cons (kit_ty (by decide +kernel)) (ItOk.cons (kit_ty (by decide +kernel)) (ItOk.cons (kit_ty (by decide +kernel)) (ItOk.cons (kit_ty (by decide +kernel)) (ItOk.cons (kit_ty (by decide +kernel)) (ItOk.cons (kit_ty (by decide +kernel)) (ItOk.cons (kit_ty (by decide +kernel)) (ItOk.cons (kit_ty (by decide +kernel)) (ItOk.cons (kit_ty (by decide +kernel)) (ItOk.cons (kit_ty (by decide +kernel)) (ItOk.cons (kit_ty (by decide +kernel)) (ItOk.cons (kit_ty (by decide +kernel)) (ItOk.cons (kit_ty (by decide +kernel)) ItOk.nil))))))))))))))))))))))))))))
theorem d__law_bag {P : Program} {w : World} {K : PySem.W.Frag} {mg : Str → Option Value} {base : Heap} (C : HC fa fn xf w K mg) : ND.FnD P w K mg base 1 (He.fAd K ("_law_bag", none)) m__law_bag := by
  obtain ⟨fd, F⟩ := C.def_ 0 rfl
  have F : FunD K "_law_bag" "_law_bag" (defArgs s__law_bag) (defBody s__law_bag) (defScope s__law_bag) [] [] (He.fAd K ("_law_bag", none)) fd := F
  refine fnd_of F sc__law_bag (F.bindsN fun _ _ _ _ _ _ us hl => match us, hl with | [_], _ => rfl) fun cdv A outer s H E hr tk hp => ?_
  exact css_one (cs_ret (ce_lst (ca_cons (ce_lc [1] rfl sc__law_bag.nd (ci_val (ce_var 0)) (blkOk_by (N := N__law_bag) (sc := defScope s__law_bag) (own := [("cell", 1)]) (by decide +kernel)) (fun _ _ _ _ _ => cg_name 1 sc__law_bag.nd) (fun _ _ _ _ _ => cts_nil) (fun _ _ _ _ _ => ce_callB c_abs (C.free 0 rfl) boot_abs (ca_cons (ce_callTy c_int (C.free 1 rfl) boot_int (ca_cons (ce_var 1) (ca_nil))) (ca_nil)))) (ca_cons (ce_int) (ca_cons (ce_int) (ca_cons (ce_int) (ca_cons (ce_int) (ca_cons (ce_int) (ca_nil)))))))))
theorem g__law_bag {P : Program} {w : World} {K : PySem.W.Frag} {mg : Str → Option Value} {base : Heap} (C : HC fa fn xf w K mg) : FnG P w K mg base 1 "_law_bag" m__law_bag := ⟨_, C.glo 15 rfl, d__law_bag C⟩
theorem d__law_draw {P : Program} {w : World} {K : PySem.W.Frag} {mg : Str → Option Value} {base : Heap} (C : HC fa fn xf w K mg) : ND.FnD P w K mg base 1 (He.fAd K ("_law_draw", none)) m__law_draw := by
  obtain ⟨fd, F⟩ := C.def_ 1 rfl
  have F : FunD K "_law_draw" "_law_draw" (defArgs s__law_draw) (defBody s__law_draw) (defScope s__law_draw) [] [] (He.fAd K ("_law_draw", none)) fd := F
  refine fnd_of F sc__law_draw (F.bindsN fun _ _ _ _ _ _ us hl => match us, hl with | [_, _], _ => rfl) fun cdv A outer s H E hr tk hp => ?_
  exact css_cons (cs_if (ct_w (cw_and (ct_cmp (o_eqD hr) (ce_ix (ce_var 0) (ce_int)) (ce_int)) (cw_and (ct_cmp (o_eqD hr) (ce_ix (ce_var 0) (ce_int)) (ce_int)) (cw_and1 (ct_cmp o_ltI (ce_ix (ce_var 0) (ce_int)) (ce_callB c_len (C.free 2 rfl) boot_len (ca_cons (ce_ix (ce_var 0) (ce_int)) (ca_nil)))))))) (css_cons (cs_set 2 (ce_ix (ce_ix (ce_var 0) (ce_int)) (ce_ix (ce_var 0) (ce_int))) sc__law_draw.nd) (css_cons (cs_setIx (ce_bin o_addX (ce_ix (ce_var 0) (ce_int)) (ce_int)) (ce_var 0) (ce_int)) (css_one (cs_if (ct_cmp o_geI (ce_var 2) (ce_bin o_powI (ce_int) (ce_int))) (css_one (cs_setIx (ce_var 2) (ce_var 0) (ce_int))) (css_cons (cs_setIx (ce_bin o_modI (ce_callTy c_int (C.free 1 rfl) boot_int (ca_cons (ce_bin o_addX (ce_bin o_mulX (ce_ix (ce_var 0) (ce_int)) (ce_int)) (ce_var 2)) (ca_nil))) (ce_int)) (ce_var 0) (ce_int)) (css_one (cs_setIx (ce_int) (ce_var 0) (ce_int)))))))) (css_nil)) (css_cons (cs_if (ct_cmp o_gtI (ce_ix (ce_var 0) (ce_int)) (ce_int)) (css_cons (cs_set 3 (ce_bin o_modI (ce_callTy c_int (C.free 1 rfl) boot_int (ca_cons (ce_ix (ce_var 0) (ce_int)) (ca_nil))) (ce_var 1)) sc__law_draw.nd) (css_cons (cs_setIx (ce_bin o_divI (ce_ix (ce_var 0) (ce_int)) (ce_var 1)) (ce_var 0) (ce_int)) (css_one (cs_ret (ce_var 3))))) (css_nil)) (css_cons (cs_setIx (ce_bin o_addX (ce_ix (ce_var 0) (ce_int)) (ce_int)) (ce_var 0) (ce_int)) (css_cons (cs_if (ct_cmp o_gtI (ce_ix (ce_var 0) (ce_int)) (ce_int)) (css_one (cs_setIx (ce_bin o_subI (ce_ix (ce_var 0) (ce_int)) (ce_int)) (ce_var 0) (ce_int))) (css_nil)) (css_cons (cs_set 4 (ce_bin o_modI (ce_callTy c_int (C.free 1 rfl) boot_int (ca_cons (ce_bin o_addX (ce_bin o_addX (ce_bin o_mulX (ce_ix (ce_var 0) (ce_int)) (ce_int)) (ce_bin o_mulX (ce_ix (ce_var 0) (ce_int)) (ce_int))) (ce_int)) (ca_nil))) (ce_int)) sc__law_draw.nd) (css_cons (cs_set 5 (ce_bin o_modI (ce_callTy c_int (C.free 1 rfl) boot_int (ca_cons (ce_bin o_addX (ce_bin o_addX (ce_bin o_mulX (ce_var 4) (ce_var 4)) (ce_bin o_mulX (ce_ix (ce_var 0) (ce_int)) (ce_int))) (ce_int)) (ca_nil))) (ce_int)) sc__law_draw.nd) (css_cons (cs_set 6 (ce_bin o_modI (ce_callTy c_int (C.free 1 rfl) boot_int (ca_cons (ce_bin o_addX (ce_bin o_mulX (ce_var 5) (ce_var 5)) (ce_bin o_divI (ce_var 5) (ce_int))) (ca_nil))) (ce_int)) sc__law_draw.nd) (css_one (cs_ret (ce_bin o_modI (ce_callTy c_int (C.free 1 rfl) boot_int (ca_cons (ce_bin o_divI (ce_var 6) (ce_int)) (ca_nil))) (ce_var 1))))))))))
theorem g__law_draw {P : Program} {w : World} {K : PySem.W.Frag} {mg : Str → Option Value} {base : Heap} (C : HC fa fn xf w K mg) : FnG P w K mg base 1 "_law_draw" m__law_draw := ⟨_, C.glo 16 rfl, d__law_draw C⟩
theorem d__law_pick {P : Program} {w : World} {K : PySem.W.Frag} {mg : Str → Option Value} {base : Heap} (C : HC fa fn xf w K mg) : ND.FnD P w K mg base 2 (He.fAd K ("_law_pick", none)) m__law_pick := by
  obtain ⟨fd, F⟩ := C.def_ 2 rfl
  have F : FunD K "_law_pick" "_law_pick" (defArgs s__law_pick) (defBody s__law_pick) (defScope s__law_pick) [] [] (He.fAd K ("_law_pick", none)) fd := F
  refine fnd_of F sc__law_pick (F.bindsN fun _ _ _ _ _ _ us hl => match us, hl with | [_, _], _ => rfl) fun cdv A outer s H E hr tk hp => ?_
  exact css_one (cs_ret (ce_ix (ce_var 1) (ce_call (g__law_draw C) (hr.mono (by decide : 1 ≤ 1)) tk (ca_cons (ce_var 0) (ca_cons (ce_callB c_len (C.free 2 rfl) boot_len (ca_cons (ce_var 1) (ca_nil))) (ca_nil))))))
theorem g__law_pick {P : Program} {w : World} {K : PySem.W.Frag} {mg : Str → Option Value} {base : Heap} (C : HC fa fn xf w K mg) : FnG P w K mg base 2 "_law_pick" m__law_pick := ⟨_, C.glo 17 rfl, d__law_pick C⟩
theorem d__law_beside {P : Program} {w : World} {K : PySem.W.Frag} {mg : Str → Option Value} {base : Heap} (C : HC fa fn xf w K mg) : ND.FnD P w K mg base 3 (He.fAd K ("_law_beside", none)) m__law_beside := by
  obtain ⟨fd, F⟩ := C.def_ 3 rfl
  have F : FunD K "_law_beside" "_law_beside" (defArgs s__law_beside) (defBody s__law_beside) (defScope s__law_beside) [] [] (He.fAd K ("_law_beside", none)) fd := F
  refine fnd_of F sc__law_beside (F.bindsN fun _ _ _ _ _ _ us hl => match us, hl with | [_, _], _ => rfl) fun cdv A outer s H E hr tk hp => ?_
  exact css_cons (cs_set 2 (ce_lst (ca_cons (ce_bin o_subI (ce_ix (ce_var 1) (ce_int)) (ce_int)) (ca_cons (ce_ix (ce_var 1) (ce_int)) (ca_cons (ce_bin o_divI (ce_bin o_addX (ce_ix (ce_var 1) (ce_int)) (ce_ix (ce_var 1) (ce_int))) (ce_int)) (ca_cons (ce_ix (ce_var 1) (ce_int)) (ca_cons (ce_bin o_addX (ce_ix (ce_var 1) (ce_int)) (ce_int)) (ca_nil))))))) sc__law_beside.nd) (css_one (cs_ret (ce_callB (c_max2 rfl) (C.free 3 rfl) boot_max (ca_cons (ce_bin o_subI (ce_int) (ce_bin o_powI (ce_int) (ce_int))) (ca_cons (ce_callB (c_min2 rfl) (C.free 4 rfl) boot_min (ca_cons (ce_call (g__law_pick C) (hr.mono (by decide : 2 ≤ 2)) tk (ca_cons (ce_var 0) (ca_cons (ce_var 2) (ca_nil)))) (ca_cons (ce_bin o_powI (ce_int) (ce_int)) (ca_nil)))) (ca_nil))))))
theorem g__law_beside {P : Program} {w : World} {K : PySem.W.Frag} {mg : Str → Option Value} {base : Heap} (C : HC fa fn xf w K mg) : FnG P w K mg base 3 "_law_beside" m__law_beside := ⟨_, C.glo 18 rfl, d__law_beside C⟩
theorem d__law_far {P : Program} {w : World} {K : PySem.W.Frag} {mg : Str → Option Value} {base : Heap} (C : HC fa fn xf w K mg) : ND.FnD P w K mg base 2 (He.fAd K ("_law_far", none)) m__law_far := by
  obtain ⟨fd, F⟩ := C.def_ 4 rfl
  have F : FunD K "_law_far" "_law_far" (defArgs s__law_far) (defBody s__law_far) (defScope s__law_far) [] [] (He.fAd K ("_law_far", none)) fd := F
  refine fnd_of F sc__law_far (F.bindsN fun _ _ _ _ _ _ us hl => match us, hl with | [_], _ => rfl) fun cdv A outer s H E hr tk hp => ?_
  exact css_cons (cs_set 1 (ce_callB (c_min2 rfl) (C.free 4 rfl) boot_min (ca_cons (ce_bin o_addX (ce_bin o_mulX (ce_call (g__law_draw C) (hr.mono (by decide : 1 ≤ 1)) tk (ca_cons (ce_var 0) (ca_cons (ce_int) (ca_nil)))) (ce_int)) (ce_call (g__law_draw C) (hr.mono (by decide : 1 ≤ 1)) tk (ca_cons (ce_var 0) (ca_cons (ce_int) (ca_nil))))) (ca_cons (ce_bin o_powI (ce_int) (ce_int)) (ca_nil)))) sc__law_far.nd) (css_one (cs_ret (ce_bin o_subI (ce_var 1) (ce_bin o_mulX (ce_bin o_mulX (ce_int) (ce_var 1)) (ce_call (g__law_draw C) (hr.mono (by decide : 1 ≤ 1)) tk (ca_cons (ce_var 0) (ca_cons (ce_int) (ca_nil))))))))
theorem g__law_far {P : Program} {w : World} {K : PySem.W.Frag} {mg : Str → Option Value} {base : Heap} (C : HC fa fn xf w K mg) : FnG P w K mg base 2 "_law_far" m__law_far := ⟨_, C.glo 19 rfl, d__law_far C⟩
theorem d__law_chain {P : Program} {w : World} {K : PySem.W.Frag} {mg : Str → Option Value} {base : Heap} (C : HC fa fn xf w K mg) : ND.FnD P w K mg base 4 (He.fAd K ("_law_chain", none)) m__law_chain := by
  obtain ⟨fd, F⟩ := C.def_ 5 rfl
  have F : FunD K "_law_chain" "_law_chain" (defArgs s__law_chain) (defBody s__law_chain) (defScope s__law_chain) [] [] (He.fAd K ("_law_chain", none)) fd := F
  refine fnd_of F sc__law_chain (F.bindsN fun _ _ _ _ _ _ us hl => match us, hl with | [_], _ => rfl) fun cdv A outer s H E hr tk hp => ?_
  exact css_cons (cs_set 1 (ce_bin o_addX (ce_int) (ce_call (g__law_draw C) (hr.mono (by decide : 1 ≤ 3)) tk (ca_cons (ce_var 0) (ca_cons (ce_int) (ca_nil))))) sc__law_chain.nd) (css_cons (cs_if (ct_cmp (o_eqD hr) (ce_call (g__law_draw C) (hr.mono (by decide : 1 ≤ 3)) tk (ca_cons (ce_var 0) (ca_cons (ce_int) (ca_nil)))) (ce_int)) (css_one (cs_set 1 (ce_bin o_addX (ce_int) (ce_call (g__law_draw C) (hr.mono (by decide : 1 ≤ 3)) tk (ca_cons (ce_var 0) (ca_cons (ce_int) (ca_nil))))) sc__law_chain.nd)) (css_nil)) (css_cons (cs_set 2 (ce_lst (ca_nil)) sc__law_chain.nd) (css_cons (cs_for hp rfl (ci_range1 (C.free 5 rfl) (ce_var 1)) (cg_name 3 sc__law_chain.nd) (css_cons (cs_set 4 (ce_call (g__law_draw C) (hr.mono (by decide : 1 ≤ 3)) tk (ca_cons (ce_var 0) (ca_cons (ce_int) (ca_nil)))) sc__law_chain.nd) (css_one (cs_if (ct_cmp (o_eqD hr) (ce_var 4) (ce_int)) (css_one (cs_expr (ce_append (ce_var 2) (ce_callB c_sorted (C.free 6 rfl) boot_sorted (ca_cons (ce_lst (ca_cons (ce_call (g__law_far C) (hr.mono (by decide : 2 ≤ 3)) tk (ca_cons (ce_var 0) (ca_nil))) (ca_cons (ce_call (g__law_far C) (hr.mono (by decide : 2 ≤ 3)) tk (ca_cons (ce_var 0) (ca_nil))) (ca_nil)))) (ca_nil)))))) (css_one (cs_if (ct_w (cw_or (ct_cmp o_ltI (ce_var 4) (ce_int)) (cw_or1 (ct_cmp (o_eqD hr) (ce_var 3) (ce_int))))) (css_cons (cs_set 5 (ce_bin o_subI (ce_call (g__law_draw C) (hr.mono (by decide : 1 ≤ 3)) tk (ca_cons (ce_var 0) (ca_cons (ce_int) (ca_nil)))) (ce_int)) sc__law_chain.nd) (css_one (cs_expr (ce_append (ce_var 2) (ce_lst (ca_cons (ce_var 5) (ca_cons (ce_bin o_addX (ce_var 5) (ce_call (g__law_draw C) (hr.mono (by decide : 1 ≤ 3)) tk (ca_cons (ce_var 0) (ca_cons (ce_int) (ca_nil))))) (ca_nil)))))))) (css_one (cs_if (ct_cmp (o_eqD hr) (ce_var 4) (ce_int)) (css_cons (cs_set 6 (ce_call (g__law_beside C) (hr.mono (by decide : 3 ≤ 3)) tk (ca_cons (ce_var 0) (ca_cons (ce_ix (ce_var 2) (ce_neg (ce_int))) (ca_nil)))) sc__law_chain.nd) (css_one (cs_expr (ce_append (ce_var 2) (ce_lst (ca_cons (ce_var 6) (ca_cons (ce_var 6) (ca_nil)))))))) (css_one (cs_expr (ce_append (ce_var 2) (ce_callB c_sorted (C.free 6 rfl) boot_sorted (ca_cons (ce_lst (ca_cons (ce_call (g__law_beside C) (hr.mono (by decide : 3 ≤ 3)) tk (ca_cons (ce_var 0) (ca_cons (ce_ix (ce_var 2) (ce_neg (ce_int))) (ca_nil)))) (ca_cons (ce_call (g__law_beside C) (hr.mono (by decide : 3 ≤ 3)) tk (ca_cons (ce_var 0) (ca_cons (ce_ix (ce_var 2) (ce_neg (ce_int))) (ca_nil)))) (ca_nil)))) (ca_nil)))))))))))))) (css_one (cs_ret (ce_var 2))))))
theorem g__law_chain {P : Program} {w : World} {K : PySem.W.Frag} {mg : Str → Option Value} {base : Heap} (C : HC fa fn xf w K mg) : FnG P w K mg base 4 "_law_chain" m__law_chain := ⟨_, C.glo 20 rfl, d__law_chain C⟩
theorem d_Spanuu_inituu {P : Program} {w : World} {K : PySem.W.Frag} {mg : Str → Option Value} {base : Heap} (C : HC fa fn xf w K mg) : ND.FnD P w K mg base 1 (He.fAd K ("Span", some "__init__")) m_Spanuu_inituu := by
  obtain ⟨fd, F⟩ := C.def_ 6 rfl
  have F : FunD K "__init__" "Span.__init__" (defArgs s_Spanuu_inituu) (defBody s_Spanuu_inituu) (defScope s_Spanuu_inituu) [] [] (He.fAd K ("Span", some "__init__")) fd := F
  refine fnd_of F sc_Spanuu_inituu (F.bindsN fun _ _ _ _ _ _ us hl => match us, hl with | [_, _, _], _ => rfl) fun cdv A outer s H E hr tk hp => ?_
  exact css_cons (cs_if (ct_cmp o_gtI (ce_var 1) (ce_var 2)) (css_one (cs_never)) (css_nil)) (css_cons (cs_fld (ft_ok C) (ce_var 0) (ce_var 1)) (css_one (cs_fld (ft_ok C) (ce_var 0) (ce_var 2))))
theorem k_Span {P : Program} {w : World} {K : PySem.W.Frag} {mg : Str → Option Value} {base : Heap} (C : HC fa fn xf w K mg) : MkD P w K mg base 1 "Span" m_Spanuu_inituu := ⟨C.glo 21 rfl, _, He.mkr_ok (C.fact 22 rfl), d_Spanuu_inituu C⟩
theorem d__law_made {P : Program} {w : World} {K : PySem.W.Frag} {mg : Str → Option Value} {base : Heap} (C : HC fa fn xf w K mg) : ND.FnD P w K mg base 3 (He.fAd K ("_law_made", none)) m__law_made := by
  obtain ⟨fd, F⟩ := C.def_ 7 rfl
  have F : FunD K "_law_made" "_law_made" (defArgs s__law_made) (defBody s__law_made) (defScope s__law_made) [] [] (He.fAd K ("_law_made", none)) fd := F
  refine fnd_of F sc__law_made (F.bindsN fun _ _ _ _ _ _ us hl => match us, hl with | [_, _], _ => rfl) fun cdv A outer s H E hr tk hp => ?_
  exact css_cons (cs_set 2 (ce_cmp (o_eqD hr) (ce_call (g__law_draw C) (hr.mono (by decide : 1 ≤ 2)) tk (ca_cons (ce_var 0) (ca_cons (ce_int) (ca_nil)))) (ce_int)) sc__law_made.nd) (css_cons (cs_set 3 (ce_newT) sc__law_made.nd) (css_cons (cs_set 4 (ce_lst (ca_nil)) sc__law_made.nd) (css_cons (cs_for hp rfl (ci_val (ce_var 1)) (cg_name 5 sc__law_made.nd) (css_cons (cs_if (ct_w (cw_or (ct_not (ct_truth (ce_var 2))) (cw_or1 (ct_cmp (o_dnotin hr) (ce_tup (ca_cons (ce_ix (ce_var 5) (ce_int)) (ca_cons (ce_ix (ce_var 5) (ce_int)) (ca_nil)))) (ce_var 3))))) (css_one (cs_put hr (ce_make (k_Span C) (hr.mono (by decide : 2 ≤ 2)) tk (ca_cons (ce_ix (ce_var 5) (ce_int)) (ca_cons (ce_ix (ce_var 5) (ce_int)) (ca_nil)))) (ce_var 3) (ce_tup (ca_cons (ce_ix (ce_var 5) (ce_int)) (ca_cons (ce_ix (ce_var 5) (ce_int)) (ca_nil)))))) (css_nil)) (css_one (cs_expr (ce_append (ce_var 4) (ce_dget hr (ce_var 3) (ce_tup (ca_cons (ce_ix (ce_var 5) (ce_int)) (ca_cons (ce_ix (ce_var 5) (ce_int)) (ca_nil)))))))))) (css_one (cs_ret (ce_callTy c_tuple (C.free 7 rfl) boot_tuple (ca_cons (ce_var 4) (ca_nil))))))))
theorem g__law_made {P : Program} {w : World} {K : PySem.W.Frag} {mg : Str → Option Value} {base : Heap} (C : HC fa fn xf w K mg) : FnG P w K mg base 3 "_law_made" m__law_made := ⟨_, C.glo 23 rfl, d__law_made C⟩
theorem d_Spanuu_anduu {P : Program} {w : World} {K : PySem.W.Frag} {mg : Str → Option Value} {base : Heap} (C : HC fa fn xf w K mg) : ND.FnD P w K mg base 3 (He.fAd K ("Span", some "__and__")) m_Spanuu_anduu := by
  obtain ⟨fd, F⟩ := C.def_ 8 rfl
  have F : FunD K "__and__" "Span.__and__" (defArgs s_Spanuu_anduu) (defBody s_Spanuu_anduu) (defScope s_Spanuu_anduu) [] [] (He.fAd K ("Span", some "__and__")) fd := F
  refine fnd_of F sc_Spanuu_anduu (F.bindsN fun _ _ _ _ _ _ us hl => match us, hl with | [_, _], _ => rfl) fun cdv A outer s H E hr tk hp => ?_
  exact css_cons (cs_set 2 (ce_callB (c_max2 rfl) (C.free 3 rfl) boot_max (ca_cons (ce_fld (ft_ok C) (ce_var 0)) (ca_cons (ce_fld (ft_ok C) (ce_var 1)) (ca_nil)))) sc_Spanuu_anduu.nd) (css_cons (cs_set 3 (ce_callB (c_min2 rfl) (C.free 4 rfl) boot_min (ca_cons (ce_fld (ft_ok C) (ce_var 0)) (ca_cons (ce_fld (ft_ok C) (ce_var 1)) (ca_nil)))) sc_Spanuu_anduu.nd) (css_cons (cs_if (ct_cmp o_gtI (ce_var 2) (ce_var 3)) (css_one (cs_ret (ce_non))) (css_nil)) (css_one (cs_ret (ce_make (k_Span C) (hr.mono (by decide : 2 ≤ 2)) tk (ca_cons (ce_var 2) (ca_cons (ce_var 3) (ca_nil))))))))
theorem b_Spanuu_anduu {P : Program} {w : World} {K : PySem.W.Frag} {mg : Str → Option Value} {base : Heap} (C : HC fa fn xf w K mg) : BinD P w K mg base 3 "Span" .BitAnd m_Spanuu_anduu := ⟨He.cls_ok (C.fact 12 rfl), C.xt 0 rfl, _, (He.meth_ok (C.fact 24 rfl)).at_, (He.meth_ok (C.fact 24 rfl)).fn, d_Spanuu_anduu C⟩
theorem d_runs {P : Program} {w : World} {K : PySem.W.Frag} {mg : Str → Option Value} {base : Heap} (C : HC fa fn xf w K mg) : ND.FnD P w K mg base 4 (He.fAd K ("runs", none)) m_runs := by
  obtain ⟨fd, F⟩ := C.def_ 9 rfl
  have F : FunD K "runs" "runs" (defArgs s_runs) (defBody s_runs) (defScope s_runs) [] [] (He.fAd K ("runs", none)) fd := F
  refine fnd_of F sc_runs (F.bindsN fun _ _ _ _ _ _ us hl => match us, hl with | [_], _ => rfl) fun cdv A outer s H E hr tk hp => ?_
  exact css_cons (cs_set 1 (ce_lst (ca_nil)) sc_runs.nd) (css_cons (cs_set 2 (ce_int) sc_runs.nd) (css_cons (cs_set 3 (ce_ix (ce_var 0) (ce_int)) sc_runs.nd) (css_cons (cs_for hp rfl (ci_range2 (C.free 5 rfl) (ce_int) (ce_callB c_len (C.free 2 rfl) boot_len (ca_cons (ce_var 0) (ca_nil)))) (cg_name 4 sc_runs.nd) (css_cons (cs_set 5 (ce_ix (ce_var 0) (ce_var 4)) sc_runs.nd) (css_cons (cs_set 6 (ce_bin (o_both (BtOk.cons (hr.mono (by decide : 3 ≤ 3)) (b_Spanuu_anduu C) BtOk.nil) tk) (ce_var 3) (ce_var 5)) sc_runs.nd) (css_one (cs_if (ct_cmp o_is (ce_var 6) (ce_non)) (css_cons (cs_expr (ce_append (ce_var 1) (ce_tup (ca_cons (ce_var 2) (ca_cons (ce_bin o_subI (ce_var 4) (ce_int)) (ca_nil)))))) (css_cons (cs_set 2 (ce_var 4) sc_runs.nd) (css_one (cs_set 3 (ce_var 5) sc_runs.nd)))) (css_one (cs_set 3 (ce_var 6) sc_runs.nd))))))) (css_cons (cs_expr (ce_append (ce_var 1) (ce_tup (ca_cons (ce_var 2) (ca_cons (ce_bin o_subI (ce_callB c_len (C.free 2 rfl) boot_len (ca_cons (ce_var 0) (ca_nil))) (ce_int)) (ca_nil)))))) (css_one (cs_ret (ce_var 1)))))))
theorem dL_runs {P : Program} {w : World} {K : PySem.W.Frag} {mg : Str → Option Value} {base : Heap} (C : HC fa fn xf w K mg) : ND.FnD P w K mg base 4 (He.fAd K ("runs", none)) mL_runs := by
  obtain ⟨fd, F⟩ := C.def_ 9 rfl
  have F : FunD K "runs" "runs" (defArgs s_runs) (defBody s_runs) (defScope s_runs) [] [] (He.fAd K ("runs", none)) fd := F
  refine fnd_of F sc_runs (F.bindsN fun _ _ _ _ _ _ us hl => match us, hl with | [_], _ => rfl) fun cdv A outer s H E hr tk hp => ?_
  exact css_cons (cs_set 1 (ce_lst (ca_nil)) sc_runs.nd) (css_cons (cs_set 2 (ce_int) sc_runs.nd) (css_cons (cs_set 3 (ce_ix (ce_var 0) (ce_int)) sc_runs.nd) (css_cons (cs_for hp rfl (ci_range2 (C.free 5 rfl) (ce_int) (ce_callB c_len (C.free 2 rfl) boot_len (ca_cons (ce_var 0) (ca_nil)))) (cg_name 4 sc_runs.nd) (css_cons (cs_set 5 (ce_ix (ce_var 0) (ce_var 4)) sc_runs.nd) (css_cons (cs_set 6 (ce_bin (o_both (BtOk.cons (hr.mono (by decide : 3 ≤ 3)) (b_Spanuu_anduu C) BtOk.nil) tk) (ce_var 3) (ce_var 5)) sc_runs.nd) (css_one (cs_if (ct_cmp o_is (ce_var 6) (ce_non)) (css_cons (cs_expr (ce_append (ce_var 1) (ce_tup (ca_cons (ce_var 2) (ca_cons (ce_bin o_subI (ce_var 4) (ce_int)) (ca_nil)))))) (css_cons (cs_set 2 (ce_var 4) sc_runs.nd) (css_one (cs_set 3 (ce_var 5) sc_runs.nd)))) (css_one (cs_set 3 (ce_var 6) sc_runs.nd))))))) (css_cons (cs_expr (ce_append (ce_var 1) (ce_tup (ca_cons (ce_var 2) (ca_cons (ce_bin o_subI (ce_callB c_len (C.free 2 rfl) boot_len (ca_cons (ce_var 0) (ca_nil))) (ce_int)) (ca_nil)))))) (css_one (cs_ret (ce_var 1)))))))
theorem g_runs {P : Program} {w : World} {K : PySem.W.Frag} {mg : Str → Option Value} {base : Heap} (C : HC fa fn xf w K mg) : FnG P w K mg base 4 "runs" m_runs := ⟨_, C.glo 25 rfl, d_runs C⟩
theorem gL_runs {P : Program} {w : World} {K : PySem.W.Frag} {mg : Str → Option Value} {base : Heap} (C : HC fa fn xf w K mg) : FnG P w K mg base 4 "runs" mL_runs := ⟨_, C.glo 25 rfl, dL_runs C⟩
theorem d_common {P : Program} {w : World} {K : PySem.W.Frag} {mg : Str → Option Value} {base : Heap} (C : HC fa fn xf w K mg) : ND.FnD P w K mg base 4 (He.fAd K ("common", none)) m_common := by
  obtain ⟨fd, F⟩ := C.def_ 10 rfl
  have F : FunD K "common" "common" (defArgs s_common) (defBody s_common) (defScope s_common) [] [] (He.fAd K ("common", none)) fd := F
  refine fnd_star F sc_common (fun _ _ _ _ _ _ rest => by cases rest <;> rfl) fun cdv A outer s H E hr tk hp => ?_
  exact css_cons (cs_set 1 (ce_ix (ce_var 0) (ce_int)) sc_common.nd) (css_cons (cs_for hp rfl (ci_val (ce_sl (ce_var 0) (co_some (ce_int)) (co_none))) (cg_name 2 sc_common.nd) (css_cons (cs_set 1 (ce_bin (o_both (BtOk.cons (hr.mono (by decide : 3 ≤ 3)) (b_Spanuu_anduu C) BtOk.nil) tk) (ce_var 1) (ce_var 2)) sc_common.nd) (css_one (cs_if (ct_cmp o_is (ce_var 1) (ce_non)) (css_one (cs_ret (ce_non))) (css_nil))))) (css_one (cs_ret (ce_var 1))))
theorem g_common {P : Program} {w : World} {K : PySem.W.Frag} {mg : Str → Option Value} {base : Heap} (C : HC fa fn xf w K mg) : FnG P w K mg base 4 "common" m_common := ⟨_, C.glo 26 rfl, d_common C⟩
theorem d_Span_nearest {P : Program} {w : World} {K : PySem.W.Frag} {mg : Str → Option Value} {base : Heap} (C : HC fa fn xf w K mg) : ND.FnD P w K mg base 1 (He.fAd K ("Span", some "nearest")) m_Span_nearest := by
  obtain ⟨fd, F⟩ := C.def_ 11 rfl
  have F : FunD K "nearest" "Span.nearest" (defArgs s_Span_nearest) (defBody s_Span_nearest) (defScope s_Span_nearest) [] [] (He.fAd K ("Span", some "nearest")) fd := F
  refine fnd_of F sc_Span_nearest (F.bindsN fun _ _ _ _ _ _ us hl => match us, hl with | [_, _], _ => rfl) fun cdv A outer s H E hr tk hp => ?_
  exact css_cons (cs_if (ct_cmp o_ltI (ce_var 1) (ce_fld (ft_ok C) (ce_var 0))) (css_one (cs_ret (ce_fld (ft_ok C) (ce_var 0)))) (css_nil)) (css_cons (cs_if (ct_cmp o_gtI (ce_var 1) (ce_fld (ft_ok C) (ce_var 0))) (css_one (cs_ret (ce_fld (ft_ok C) (ce_var 0)))) (css_nil)) (css_one (cs_ret (ce_var 1))))
theorem t_Span_nearest {P : Program} {w : World} {K : PySem.W.Frag} {mg : Str → Option Value} {base : Heap} (C : HC fa fn xf w K mg) : MtD P w K mg base 1 "Span" "nearest" m_Span_nearest := ⟨He.cls_ok (C.fact 12 rfl), _, He.meth_ok (C.fact 27 rfl), d_Span_nearest C⟩
theorem d_way {P : Program} {w : World} {K : PySem.W.Frag} {mg : Str → Option Value} {base : Heap} (C : HC fa fn xf w K mg) : ND.FnD P w K mg base 5 (He.fAd K ("way", none)) m_way := by
  obtain ⟨fd, F⟩ := C.def_ 12 rfl
  have F : FunD K "way" "way" (defArgs s_way) (defBody s_way) (defScope s_way) [] [] (He.fAd K ("way", none)) fd := F
  refine fnd_of F sc_way (F.bindsN fun _ _ _ _ _ _ us hl => match us, hl with | [_], _ => rfl) fun cdv A outer s H E hr tk hp => ?_
  exact css_cons (cs_set 1 (ce_lst (ca_nil)) sc_way.nd) (css_cons (cs_for hp rfl (ci_val (ce_call (g_runs C) (hr.mono (by decide : 4 ≤ 4)) tk (ca_cons (ce_var 0) (ca_nil)))) (cg_tup rfl (cgs_cons (cg_name 2 sc_way.nd) (cgs_cons (cg_name 3 sc_way.nd) (cgs_nil)))) (css_cons (cs_set 4 (ce_sl (ce_var 0) (co_some (ce_var 2)) (co_some (ce_bin o_addX (ce_var 3) (ce_int)))) sc_way.nd) (css_cons (cs_set 5 (ce_callS1 (g_common C) (hr.mono (by decide : 4 ≤ 4)) tk (ce_var 4)) sc_way.nd) (css_cons (cs_if (ct_cmp (o_eqD hr) (ce_var 2) (ce_int)) (css_one (cs_set 6 (ce_fld (ft_ok C) (ce_var 5)) sc_way.nd)) (css_one (cs_set 6 (ce_meth (MtOk.cons (hr.mono (by decide : 1 ≤ 4)) (t_Span_nearest C) MtOk.nil) tk (ce_var 5) (ca_cons (ce_ix (ce_var 1) (ce_neg (ce_int))) (ca_nil))) sc_way.nd))) (css_one (cs_for hp rfl (ci_val (ce_var 4)) (cg_name 7 sc_way.nd) (css_one (cs_expr (ce_append (ce_var 1) (ce_var 6)))))))))) (css_one (cs_ret (ce_callTy c_tuple (C.free 7 rfl) boot_tuple (ca_cons (ce_var 1) (ca_nil))))))
theorem g_way {P : Program} {w : World} {K : PySem.W.Frag} {mg : Str → Option Value} {base : Heap} (C : HC fa fn xf w K mg) : FnG P w K mg base 5 "way" m_way := ⟨_, C.glo 28 rfl, d_way C⟩
theorem d__law_fewest {P : Program} {w : World} {K : PySem.W.Frag} {mg : Str → Option Value} {base : Heap} (C : HC fa fn xf w K mg) : ND.FnD P w K mg base 1 (He.fAd K ("_law_fewest", none)) m__law_fewest := by
  obtain ⟨fd, F⟩ := C.def_ 13 rfl
  have F : FunD K "_law_fewest" "_law_fewest" (defArgs s__law_fewest) (defBody s__law_fewest) (defScope s__law_fewest) [] [] (He.fAd K ("_law_fewest", none)) fd := F
  refine fnd_of F sc__law_fewest (F.bindsN fun _ _ _ _ _ _ us hl => match us, hl with | [_], _ => rfl) fun cdv A outer s H E hr tk hp => ?_
  exact css_cons (cs_set 1 (ce_sortSet (lv := false) (C.free 6 rfl) (C.free 8 rfl) (ce_lc [9] rfl sc__law_fewest.nd (ci_val (ce_var 0)) (blkOk_by (N := N__law_fewest) (sc := defScope s__law_fewest) (own := [("ends", 9)]) (by decide +kernel)) (fun _ _ _ _ _ => cg_name 9 sc__law_fewest.nd) (fun _ _ _ _ _ => cts_nil) (fun _ _ _ _ _ => ce_ix (ce_var 9) (ce_int)))) sc__law_fewest.nd) (css_cons (cs_setLc 2 [8] rfl sc__law_fewest.nd (ci_val (ce_var 1)) (blkOk_by (N := N__law_fewest) (sc := defScope s__law_fewest) (own := [("value", 8)]) (by decide +kernel)) (fun _ _ _ _ _ => cg_name 8 sc__law_fewest.nd) (fun _ _ _ _ _ => cts_nil) (fun _ _ _ _ _ => ce_int)) (css_cons (cs_set 3 (ce_int) sc__law_fewest.nd) (css_cons (cs_for hp rfl (ci_range1 (C.free 5 rfl) (ce_callB c_len (C.free 2 rfl) boot_len (ca_cons (ce_var 0) (ca_nil)))) (cg_name 4 sc__law_fewest.nd) (css_cons (cs_set 5 (ce_lst (ca_nil)) sc__law_fewest.nd) (css_cons (cs_for hp rfl (ci_range1 (C.free 5 rfl) (ce_callB c_len (C.free 2 rfl) boot_len (ca_cons (ce_var 1) (ca_nil)))) (cg_name 6 sc__law_fewest.nd) (css_cons (cs_set 7 (ce_neg (ce_int)) sc__law_fewest.nd) (css_cons (cs_if (ct_w (cw_and (ct_cmp o_leI (ce_ix (ce_ix (ce_var 0) (ce_var 4)) (ce_int)) (ce_ix (ce_var 1) (ce_var 6))) (cw_and1 (ct_cmp o_leI (ce_ix (ce_var 1) (ce_var 6)) (ce_ix (ce_ix (ce_var 0) (ce_var 4)) (ce_int)))))) (css_cons (cs_set 7 (ce_bin o_addX (ce_var 3) (ce_callTy c_int (C.free 1 rfl) boot_int (ca_cons (ce_cmp o_gtI (ce_var 4) (ce_int)) (ca_nil)))) sc__law_fewest.nd) (css_one (cs_if (ct_cmp o_geI (ce_ix (ce_var 2) (ce_var 6)) (ce_int)) (css_one (cs_set 7 (ce_callB (c_min2 rfl) (C.free 4 rfl) boot_min (ca_cons (ce_var 7) (ca_cons (ce_ix (ce_var 2) (ce_var 6)) (ca_nil)))) sc__law_fewest.nd)) (css_nil)))) (css_nil)) (css_one (cs_expr (ce_append (ce_var 5) (ce_var 7))))))) (css_cons (cs_set 2 (ce_var 5) sc__law_fewest.nd) (css_one (cs_set 3 (ce_callB (c_minL rfl) (C.free 4 rfl) boot_min (ca_cons (ce_lc [7] rfl sc__law_fewest.nd (ci_val (ce_var 2)) (blkOk_by (N := N__law_fewest) (sc := defScope s__law_fewest) (own := [("toll", 7)]) (by decide +kernel)) (fun _ _ _ _ _ => cg_name 7 sc__law_fewest.nd) (fun _ _ _ _ _ => cts_one (ct_cmp o_geI (ce_var 7) (ce_int))) (fun _ _ _ _ _ => ce_var 7)) (ca_nil))) sc__law_fewest.nd)))))) (css_one (cs_ret (ce_var 3))))))
theorem g__law_fewest {P : Program} {w : World} {K : PySem.W.Frag} {mg : Str → Option Value} {base : Heap} (C : HC fa fn xf w K mg) : FnG P w K mg base 1 "_law_fewest" m__law_fewest := ⟨_, C.glo 29 rfl, d__law_fewest C⟩
theorem d_bends {P : Program} {w : World} {K : PySem.W.Frag} {mg : Str → Option Value} {base : Heap} (C : HC fa fn xf w K mg) : ND.FnD P w K mg base 1 (He.fAd K ("bends", none)) m_bends := by
  obtain ⟨fd, F⟩ := C.def_ 14 rfl
  have F : FunD K "bends" "bends" (defArgs s_bends) (defBody s_bends) (defScope s_bends) [] [] (He.fAd K ("bends", none)) fd := F
  refine fnd_of F sc_bends (F.bindsN fun _ _ _ _ _ _ us hl => match us, hl with | [_], _ => rfl) fun cdv A outer s H E hr tk hp => ?_
  exact css_one (cs_ret (ce_callB c_len (C.free 2 rfl) boot_len (ca_cons (ce_lc [1] rfl sc_bends.nd (ci_range2 (C.free 5 rfl) (ce_int) (ce_callB c_len (C.free 2 rfl) boot_len (ca_cons (ce_var 0) (ca_nil)))) (blkOk_by (N := N_bends) (sc := defScope s_bends) (own := [("index", 1)]) (by decide +kernel)) (fun _ _ _ _ _ => cg_name 1 sc_bends.nd) (fun _ _ _ _ _ => cts_one (ct_cmp (o_neD hr) (ce_ix (ce_var 0) (ce_var 1)) (ce_ix (ce_var 0) (ce_bin o_subI (ce_var 1) (ce_int))))) (fun _ _ _ _ _ => ce_var 1)) (ca_nil))))
theorem g_bends {P : Program} {w : World} {K : PySem.W.Frag} {mg : Str → Option Value} {base : Heap} (C : HC fa fn xf w K mg) : FnG P w K mg base 1 "bends" m_bends := ⟨_, C.glo 30 rfl, d_bends C⟩
theorem d__law_row {P : Program} {w : World} {K : PySem.W.Frag} {mg : Str → Option Value} {base : Heap} (C : HC fa fn xf w K mg) : ND.FnD P w K mg base 2 (He.fAd K ("_law_row", none)) m__law_row := by
  obtain ⟨fd, F⟩ := C.def_ 15 rfl
  have F : FunD K "_law_row" "_law_row" (defArgs s__law_row) (defBody s__law_row) (defScope s__law_row) [] [] (He.fAd K ("_law_row", none)) fd := F
  refine fnd_of F sc__law_row (F.bindsN fun _ _ _ _ _ _ us hl => match us, hl with | [_, _], _ => rfl) fun cdv A outer s H E hr tk hp => ?_
  exact css_cons (cs_set 2 (ce_lst (ca_nil)) sc__law_row.nd) (css_cons (cs_for hp rfl (ci_val (ce_var 1)) (cg_name 3 sc__law_row.nd) (css_cons (cs_set 4 (ce_call (g__law_draw C) (hr.mono (by decide : 1 ≤ 1)) tk (ca_cons (ce_var 0) (ca_cons (ce_int) (ca_nil)))) sc__law_row.nd) (css_cons (cs_set 5 (ce_ix (ce_var 3) (ce_int)) sc__law_row.nd) (css_cons (cs_if (ct_cmp (o_eqD hr) (ce_var 4) (ce_int)) (css_one (cs_set 5 (ce_ix (ce_var 3) (ce_int)) sc__law_row.nd)) (css_one (cs_if (ct_cmp (o_eqD hr) (ce_var 4) (ce_int)) (css_one (cs_set 5 (ce_bin o_divI (ce_bin o_addX (ce_ix (ce_var 3) (ce_int)) (ce_ix (ce_var 3) (ce_int))) (ce_int)) sc__law_row.nd)) (css_one (cs_if (ct_cmp (o_eqD hr) (ce_var 4) (ce_int)) (css_one (cs_set 5 (ce_bin o_addX (ce_ix (ce_var 3) (ce_int)) (ce_call (g__law_draw C) (hr.mono (by decide : 1 ≤ 1)) tk (ca_cons (ce_var 0) (ca_cons (ce_bin o_addX (ce_bin o_subI (ce_ix (ce_var 3) (ce_int)) (ce_ix (ce_var 3) (ce_int))) (ce_int)) (ca_nil))))) sc__law_row.nd)) (css_one (cs_if (ct_w (cw_and (ct_cmp o_gtI (ce_var 4) (ce_int)) (cw_and1 (ct_cmp o_gtI (ce_callB c_len (C.free 2 rfl) boot_len (ca_cons (ce_var 2) (ca_nil))) (ce_int))))) (css_one (cs_set 5 (ce_callB (c_max2 rfl) (C.free 3 rfl) boot_max (ca_cons (ce_ix (ce_var 3) (ce_int)) (ca_cons (ce_callB (c_min2 rfl) (C.free 4 rfl) boot_min (ca_cons (ce_ix (ce_var 2) (ce_neg (ce_int))) (ca_cons (ce_ix (ce_var 3) (ce_int)) (ca_nil)))) (ca_nil)))) sc__law_row.nd)) (css_nil)))))))) (css_one (cs_expr (ce_append (ce_var 2) (ce_var 5)))))))) (css_one (cs_ret (ce_var 2))))
theorem g__law_row {P : Program} {w : World} {K : PySem.W.Frag} {mg : Str → Option Value} {base : Heap} (C : HC fa fn xf w K mg) : FnG P w K mg base 2 "_law_row" m__law_row := ⟨_, C.glo 31 rfl, d__law_row C⟩
theorem d__law_shared {P : Program} {w : World} {K : PySem.W.Frag} {mg : Str → Option Value} {base : Heap} (C : HC fa fn xf w K mg) : ND.FnD P w K mg base 1 (He.fAd K ("_law_shared", none)) m__law_shared := by
  obtain ⟨fd, F⟩ := C.def_ 16 rfl
  have F : FunD K "_law_shared" "_law_shared" (defArgs s__law_shared) (defBody s__law_shared) (defScope s__law_shared) [] [] (He.fAd K ("_law_shared", none)) fd := F
  refine fnd_of F sc__law_shared (F.bindsN fun _ _ _ _ _ _ us hl => match us, hl with | [_], _ => rfl) fun cdv A outer s H E hr tk hp => ?_
  exact css_cons (cs_set 1 (ce_ix (ce_callB c_sorted (C.free 6 rfl) boot_sorted (ca_cons (ce_lc [3] rfl sc__law_shared.nd (ci_val (ce_var 0)) (blkOk_by (N := N__law_shared) (sc := defScope s__law_shared) (own := [("ends", 3)]) (by decide +kernel)) (fun _ _ _ _ _ => cg_name 3 sc__law_shared.nd) (fun _ _ _ _ _ => cts_nil) (fun _ _ _ _ _ => ce_ix (ce_var 3) (ce_int))) (ca_nil))) (ce_neg (ce_int))) sc__law_shared.nd) (css_cons (cs_set 2 (ce_ix (ce_callB c_sorted (C.free 6 rfl) boot_sorted (ca_cons (ce_lc [3] rfl sc__law_shared.nd (ci_val (ce_var 0)) (blkOk_by (N := N__law_shared) (sc := defScope s__law_shared) (own := [("ends", 3)]) (by decide +kernel)) (fun _ _ _ _ _ => cg_name 3 sc__law_shared.nd) (fun _ _ _ _ _ => cts_nil) (fun _ _ _ _ _ => ce_ix (ce_var 3) (ce_int))) (ca_nil))) (ce_int)) sc__law_shared.nd) (css_cons (cs_if (ct_cmp o_gtI (ce_var 1) (ce_var 2)) (css_one (cs_ret (ce_non))) (css_nil)) (css_one (cs_ret (ce_lst (ca_cons (ce_var 1) (ca_cons (ce_var 2) (ca_nil))))))))
theorem g__law_shared {P : Program} {w : World} {K : PySem.W.Frag} {mg : Str → Option Value} {base : Heap} (C : HC fa fn xf w K mg) : FnG P w K mg base 1 "_law_shared" m__law_shared := ⟨_, C.glo 32 rfl, d__law_shared C⟩
theorem d__law_whole {P : Program} {w : World} {K : PySem.W.Frag} {mg : Str → Option Value} {base : Heap} (C : HC fa fn xf w K mg) : ND.FnD P w K mg base 1 (He.fAd K ("_law_whole", none)) m__law_whole := by
  obtain ⟨fd, F⟩ := C.def_ 17 rfl
  have F : FunD K "_law_whole" "_law_whole" (defArgs s__law_whole) (defBody s__law_whole) (defScope s__law_whole) [] [] (He.fAd K ("_law_whole", none)) fd := F
  refine fnd_of F sc__law_whole (F.bindsN fun _ _ _ _ _ _ us hl => match us, hl with | [_], _ => rfl) fun cdv A outer s H E hr tk hp => ?_
  exact css_one (cs_ret (ce_and (ce_callB (c_isi (cs_ok C) (it_ok C)) (C.free 9 rfl) boot_isinstance (ca_cons (ce_var 0) (ca_cons (ce_ty "int" (C.free 1 rfl) boot_int) (ca_nil)))) (ce_one (ce_not (ce_callB (c_isi (cs_ok C) (it_ok C)) (C.free 9 rfl) boot_isinstance (ca_cons (ce_var 0) (ca_cons (ce_ty "bool" (C.free 10 rfl) boot_bool) (ca_nil))))))))
theorem g__law_whole {P : Program} {w : World} {K : PySem.W.Frag} {mg : Str → Option Value} {base : Heap} (C : HC fa fn xf w K mg) : FnG P w K mg base 1 "_law_whole" m__law_whole := ⟨_, C.glo 33 rfl, d__law_whole C⟩
theorem d__law_wholes {P : Program} {w : World} {K : PySem.W.Frag} {mg : Str → Option Value} {base : Heap} (C : HC fa fn xf w K mg) : ND.FnD P w K mg base 2 (He.fAd K ("_law_wholes", none)) m__law_wholes := by
  obtain ⟨fd, F⟩ := C.def_ 18 rfl
  have F : FunD K "_law_wholes" "_law_wholes" (defArgs s__law_wholes) (defBody s__law_wholes) (defScope s__law_wholes) [] [] (He.fAd K ("_law_wholes", none)) fd := F
  refine fnd_of F sc__law_wholes (F.bindsN fun _ _ _ _ _ _ us hl => match us, hl with | [_, _], _ => rfl) fun cdv A outer s H E hr tk hp => ?_
  exact css_cons (cs_if (ct_w (cw_or (ct_not (ct_truth (ce_callB (c_isi (cs_ok C) (it_ok C)) (C.free 9 rfl) boot_isinstance (ca_cons (ce_var 0) (ca_cons (ce_ty "tuple" (C.free 7 rfl) boot_tuple) (ca_nil)))))) (cw_or1 (ct_cmp (o_neD hr) (ce_callB c_len (C.free 2 rfl) boot_len (ca_cons (ce_var 0) (ca_nil))) (ce_var 1))))) (css_one (cs_ret (ce_bl))) (css_nil)) (css_cons (cs_for hp rfl (ci_val (ce_var 0)) (cg_name 2 sc__law_wholes.nd) (css_one (cs_if (ct_not (ct_truth (ce_call (g__law_whole C) (hr.mono (by decide : 1 ≤ 1)) tk (ca_cons (ce_var 2) (ca_nil))))) (css_one (cs_ret (ce_bl))) (css_nil)))) (css_one (cs_ret (ce_bl))))
theorem g__law_wholes {P : Program} {w : World} {K : PySem.W.Frag} {mg : Str → Option Value} {base : Heap} (C : HC fa fn xf w K mg) : FnG P w K mg base 2 "_law_wholes" m__law_wholes := ⟨_, C.glo 34 rfl, d__law_wholes C⟩
theorem d__law_are_runs {P : Program} {w : World} {K : PySem.W.Frag} {mg : Str → Option Value} {base : Heap} (C : HC fa fn xf w K mg) : ND.FnD P w K mg base 3 (He.fAd K ("_law_are_runs", none)) m__law_are_runs := by
  obtain ⟨fd, F⟩ := C.def_ 19 rfl
  have F : FunD K "_law_are_runs" "_law_are_runs" (defArgs s__law_are_runs) (defBody s__law_are_runs) (defScope s__law_are_runs) [] [] (He.fAd K ("_law_are_runs", none)) fd := F
  refine fnd_of F sc__law_are_runs (F.bindsN fun _ _ _ _ _ _ us hl => match us, hl with | [_, _], _ => rfl) fun cdv A outer s H E hr tk hp => ?_
  exact css_cons (cs_if (ct_not (ct_truth (ce_callB (c_isi (cs_ok C) (it_ok C)) (C.free 9 rfl) boot_isinstance (ca_cons (ce_var 1) (ca_cons (ce_ty "list" (C.free 11 rfl) boot_list) (ca_nil)))))) (css_one (cs_ret (ce_bl))) (css_nil)) (css_cons (cs_set 2 (ce_int) sc__law_are_runs.nd) (css_cons (cs_for hp rfl (ci_val (ce_var 1)) (cg_name 3 sc__law_are_runs.nd) (css_cons (cs_if (ct_w (cw_or (ct_not (ct_truth (ce_call (g__law_wholes C) (hr.mono (by decide : 2 ≤ 2)) tk (ca_cons (ce_var 3) (ca_cons (ce_int) (ca_nil)))))) (cw_or (ct_cmp (o_neD hr) (ce_ix (ce_var 3) (ce_int)) (ce_var 2)) (cw_or (ct_cmp o_ltI (ce_ix (ce_var 3) (ce_int)) (ce_var 2)) (cw_or1 (ct_cmp o_geI (ce_ix (ce_var 3) (ce_int)) (ce_callB c_len (C.free 2 rfl) boot_len (ca_cons (ce_var 0) (ca_nil))))))))) (css_one (cs_ret (ce_bl))) (css_nil)) (css_cons (cs_if (ct_cmp o_is (ce_call (g__law_shared C) (hr.mono (by decide : 1 ≤ 2)) tk (ca_cons (ce_sl (ce_var 0) (co_some (ce_var 2)) (co_some (ce_bin o_addX (ce_ix (ce_var 3) (ce_int)) (ce_int)))) (ca_nil))) (ce_non)) (css_one (cs_ret (ce_bl))) (css_nil)) (css_cons (cs_if (ct_w (cw_and (ct_cmp o_ltI (ce_bin o_addX (ce_ix (ce_var 3) (ce_int)) (ce_int)) (ce_callB c_len (C.free 2 rfl) boot_len (ca_cons (ce_var 0) (ca_nil)))) (cw_and1 (ct_cmp o_isnot (ce_call (g__law_shared C) (hr.mono (by decide : 1 ≤ 2)) tk (ca_cons (ce_sl (ce_var 0) (co_some (ce_var 2)) (co_some (ce_bin o_addX (ce_ix (ce_var 3) (ce_int)) (ce_int)))) (ca_nil))) (ce_non))))) (css_one (cs_ret (ce_bl))) (css_nil)) (css_one (cs_set 2 (ce_bin o_addX (ce_ix (ce_var 3) (ce_int)) (ce_int)) sc__law_are_runs.nd)))))) (css_one (cs_ret (ce_cmp (o_eqD hr) (ce_var 2) (ce_callB c_len (C.free 2 rfl) boot_len (ca_cons (ce_var 0) (ca_nil))))))))
theorem g__law_are_runs {P : Program} {w : World} {K : PySem.W.Frag} {mg : Str → Option Value} {base : Heap} (C : HC fa fn xf w K mg) : FnG P w K mg base 3 "_law_are_runs" m__law_are_runs := ⟨_, C.glo 35 rfl, d__law_are_runs C⟩
theorem d__law_lies {P : Program} {w : World} {K : PySem.W.Frag} {mg : Str → Option Value} {base : Heap} (C : HC fa fn xf w K mg) : ND.FnD P w K mg base 3 (He.fAd K ("_law_lies", none)) m__law_lies := by
  obtain ⟨fd, F⟩ := C.def_ 20 rfl
  have F : FunD K "_law_lies" "_law_lies" (defArgs s__law_lies) (defBody s__law_lies) (defScope s__law_lies) [] [] (He.fAd K ("_law_lies", none)) fd := F
  refine fnd_of F sc__law_lies (F.bindsN fun _ _ _ _ _ _ us hl => match us, hl with | [_, _], _ => rfl) fun cdv A outer s H E hr tk hp => ?_
  exact css_cons (cs_if (ct_not (ct_truth (ce_call (g__law_wholes C) (hr.mono (by decide : 2 ≤ 2)) tk (ca_cons (ce_var 1) (ca_cons (ce_callB c_len (C.free 2 rfl) boot_len (ca_cons (ce_var 0) (ca_nil))) (ca_nil)))))) (css_one (cs_ret (ce_bl))) (css_nil)) (css_cons (cs_for hp rfl (ci_range1 (C.free 5 rfl) (ce_callB c_len (C.free 2 rfl) boot_len (ca_cons (ce_var 0) (ca_nil)))) (cg_name 2 sc__law_lies.nd) (css_one (cs_if (ct_w (cw_or (ct_cmp o_ltI (ce_ix (ce_var 1) (ce_var 2)) (ce_ix (ce_ix (ce_var 0) (ce_var 2)) (ce_int))) (cw_or1 (ct_cmp o_gtI (ce_ix (ce_var 1) (ce_var 2)) (ce_ix (ce_ix (ce_var 0) (ce_var 2)) (ce_int)))))) (css_one (cs_ret (ce_bl))) (css_nil)))) (css_one (cs_ret (ce_bl))))
theorem g__law_lies {P : Program} {w : World} {K : PySem.W.Frag} {mg : Str → Option Value} {base : Heap} (C : HC fa fn xf w K mg) : FnG P w K mg base 3 "_law_lies" m__law_lies := ⟨_, C.glo 36 rfl, d__law_lies C⟩
theorem d__law_due_way {P : Program} {w : World} {K : PySem.W.Frag} {mg : Str → Option Value} {base : Heap} (C : HC fa fn xf w K mg) : ND.FnD P w K mg base 2 (He.fAd K ("_law_due_way", none)) m__law_due_way := by
  obtain ⟨fd, F⟩ := C.def_ 21 rfl
  have F : FunD K "_law_due_way" "_law_due_way" (defArgs s__law_due_way) (defBody s__law_due_way) (defScope s__law_due_way) [] [] (He.fAd K ("_law_due_way", none)) fd := F
  refine fnd_of F sc__law_due_way (F.bindsN fun _ _ _ _ _ _ us hl => match us, hl with | [_, _], _ => rfl) fun cdv A outer s H E hr tk hp => ?_
  exact css_cons (cs_set 2 (ce_lst (ca_nil)) sc__law_due_way.nd) (css_cons (cs_for hp rfl (ci_val (ce_var 1)) (cg_name 3 sc__law_due_way.nd) (css_cons (cs_set 4 (ce_call (g__law_shared C) (hr.mono (by decide : 1 ≤ 1)) tk (ca_cons (ce_sl (ce_var 0) (co_some (ce_ix (ce_var 3) (ce_int))) (co_some (ce_bin o_addX (ce_ix (ce_var 3) (ce_int)) (ce_int)))) (ca_nil))) sc__law_due_way.nd) (css_cons (cs_set 5 (ce_ix (ce_var 4) (ce_int)) sc__law_due_way.nd) (css_cons (cs_if (ct_cmp o_gtI (ce_callB c_len (C.free 2 rfl) boot_len (ca_cons (ce_var 2) (ca_nil))) (ce_int)) (css_one (cs_set 5 (ce_ix (ce_callB c_sorted (C.free 6 rfl) boot_sorted (ca_cons (ce_lst (ca_cons (ce_ix (ce_var 4) (ce_int)) (ca_cons (ce_ix (ce_var 2) (ce_neg (ce_int))) (ca_cons (ce_ix (ce_var 4) (ce_int)) (ca_nil))))) (ca_nil))) (ce_int)) sc__law_due_way.nd)) (css_nil)) (css_one (cs_for hp rfl (ci_range2 (C.free 5 rfl) (ce_ix (ce_var 3) (ce_int)) (ce_bin o_addX (ce_ix (ce_var 3) (ce_int)) (ce_int))) (cg_name 6 sc__law_due_way.nd) (css_one (cs_expr (ce_append (ce_var 2) (ce_var 5)))))))))) (css_one (cs_ret (ce_callTy c_tuple (C.free 7 rfl) boot_tuple (ca_cons (ce_var 2) (ca_nil))))))
theorem g__law_due_way {P : Program} {w : World} {K : PySem.W.Frag} {mg : Str → Option Value} {base : Heap} (C : HC fa fn xf w K mg) : FnG P w K mg base 2 "_law_due_way" m__law_due_way := ⟨_, C.glo 37 rfl, d__law_due_way C⟩
theorem d__law_bends {P : Program} {w : World} {K : PySem.W.Frag} {mg : Str → Option Value} {base : Heap} (C : HC fa fn xf w K mg) : ND.FnD P w K mg base 1 (He.fAd K ("_law_bends", none)) m__law_bends := by
  obtain ⟨fd, F⟩ := C.def_ 22 rfl
  have F : FunD K "_law_bends" "_law_bends" (defArgs s__law_bends) (defBody s__law_bends) (defScope s__law_bends) [] [] (He.fAd K ("_law_bends", none)) fd := F
  refine fnd_of F sc__law_bends (F.bindsN fun _ _ _ _ _ _ us hl => match us, hl with | [_], _ => rfl) fun cdv A outer s H E hr tk hp => ?_
  exact css_one (cs_ret (ce_callB c_len (C.free 2 rfl) boot_len (ca_cons (ce_lc [1] rfl sc__law_bends.nd (ci_range1 (C.free 5 rfl) (ce_bin o_subI (ce_callB c_len (C.free 2 rfl) boot_len (ca_cons (ce_var 0) (ca_nil))) (ce_int))) (blkOk_by (N := N__law_bends) (sc := defScope s__law_bends) (own := [("k", 1)]) (by decide +kernel)) (fun _ _ _ _ _ => cg_name 1 sc__law_bends.nd) (fun _ _ _ _ _ => cts_one (ct_cmp (o_neD hr) (ce_ix (ce_var 0) (ce_var 1)) (ce_ix (ce_var 0) (ce_bin o_addX (ce_var 1) (ce_int))))) (fun _ _ _ _ _ => ce_var 1)) (ca_nil))))
theorem g__law_bends {P : Program} {w : World} {K : PySem.W.Frag} {mg : Str → Option Value} {base : Heap} (C : HC fa fn xf w K mg) : FnG P w K mg base 1 "_law_bends" m__law_bends := ⟨_, C.glo 38 rfl, d__law_bends C⟩
theorem d_law {P : Program} {w : World} {K : PySem.W.Frag} {mg : Str → Option Value} {base : Heap} (C : HC fa fn xf w K mg) : ND.FnD P w K mg base 6 (He.fAd K ("law", none)) m_law := by
  obtain ⟨fd, F⟩ := C.def_ 23 rfl
  have F : FunD K "law" "law" (defArgs s_law) (defBody s_law) (defScope s_law) [] [] (He.fAd K ("law", none)) fd := F
  refine fnd_of F sc_law (F.bindsN fun _ _ _ _ _ _ us hl => match us, hl with | [_], _ => rfl) fun cdv A outer s H E hr tk hp => ?_
  exact css_cons (cs_set 1 (ce_call (g__law_bag C) (hr.mono (by decide : 1 ≤ 5)) tk (ca_cons (ce_var 0) (ca_nil))) sc_law.nd) (css_cons (cs_set 2 (ce_call (g__law_chain C) (hr.mono (by decide : 4 ≤ 5)) tk (ca_cons (ce_var 1) (ca_nil))) sc_law.nd) (css_cons (cs_setLc 3 [14] rfl sc_law.nd (ci_range1 (C.free 5 rfl) (ce_int)) (blkOk_by (N := N_law) (sc := defScope s_law) (own := [("turn", 14)]) (by decide +kernel)) (fun _ _ _ _ _ => cg_name 14 sc_law.nd) (fun _ _ _ _ _ => cts_nil) (fun _ _ _ _ _ => ce_call (g__law_row C) (hr.mono (by decide : 2 ≤ 5)) takes_no (ca_cons (ce_var 1) (ca_cons (ce_var 2) (ca_nil))))) (css_cons (cs_set 4 (ce_call (g__law_made C) (hr.mono (by decide : 3 ≤ 5)) tk (ca_cons (ce_var 1) (ca_cons (ce_var 2) (ca_nil)))) sc_law.nd) (css_cons (cs_set 5 (ce_call (gL_runs C) (hr.mono (by decide : 4 ≤ 5)) tk (ca_cons (ce_var 4) (ca_nil))) sc_law.nd) (css_cons (cs_if (ct_not (ct_truth (ce_call (g__law_are_runs C) (hr.mono (by decide : 3 ≤ 5)) tk (ca_cons (ce_var 2) (ca_cons (ce_var 5) (ca_nil)))))) (css_one (cs_ret (ce_bl))) (css_nil)) (css_cons (cs_set 6 (ce_call (g_way C) (hr.mono (by decide : 5 ≤ 5)) tk (ca_cons (ce_var 4) (ca_nil))) sc_law.nd) (css_cons (cs_if (ct_w (cw_or (ct_not (ct_truth (ce_call (g__law_lies C) (hr.mono (by decide : 3 ≤ 5)) tk (ca_cons (ce_var 2) (ca_cons (ce_var 6) (ca_nil)))))) (cw_or1 (ct_cmp (o_neD hr) (ce_var 6) (ce_call (g__law_due_way C) (hr.mono (by decide : 2 ≤ 5)) tk (ca_cons (ce_var 2) (ca_cons (ce_var 5) (ca_nil)))))))) (css_one (cs_ret (ce_bl))) (css_nil)) (css_cons (cs_set 7 (ce_call (g__law_fewest C) (hr.mono (by decide : 1 ≤ 5)) tk (ca_cons (ce_var 2) (ca_nil))) sc_law.nd) (css_cons (cs_set 8 (ce_call (g_bends C) (hr.mono (by decide : 1 ≤ 5)) tk (ca_cons (ce_var 6) (ca_nil))) sc_law.nd) (css_cons (cs_if (ct_w (cw_or (ct_not (ct_truth (ce_call (g__law_whole C) (hr.mono (by decide : 1 ≤ 5)) tk (ca_cons (ce_var 8) (ca_nil))))) (cw_or (ct_cmp (o_neD hr) (ce_var 8) (ce_var 7)) (cw_or1 (ct_cmp (o_neD hr) (ce_callB c_len (C.free 2 rfl) boot_len (ca_cons (ce_var 5) (ca_nil))) (ce_bin o_addX (ce_var 7) (ce_int))))))) (css_one (cs_ret (ce_bl))) (css_nil)) (css_cons (cs_for hp rfl (ci_val (ce_var 3)) (cg_name 9 sc_law.nd) (css_cons (cs_set 8 (ce_call (g_bends C) (hr.mono (by decide : 1 ≤ 5)) tk (ca_cons (ce_callTy c_tuple (C.free 7 rfl) boot_tuple (ca_cons (ce_var 9) (ca_nil))) (ca_nil))) sc_law.nd) (css_one (cs_if (ct_w (cw_or (ct_not (ct_truth (ce_call (g__law_whole C) (hr.mono (by decide : 1 ≤ 5)) tk (ca_cons (ce_var 8) (ca_nil))))) (cw_or (ct_cmp (o_neD hr) (ce_var 8) (ce_call (g__law_bends C) (hr.mono (by decide : 1 ≤ 5)) tk (ca_cons (ce_var 9) (ca_nil)))) (cw_or1 (ct_cmp o_ltI (ce_var 8) (ce_var 7)))))) (css_one (cs_ret (ce_bl))) (css_nil))))) (css_cons (cs_set 10 (ce_call (g_way C) (hr.mono (by decide : 5 ≤ 5)) tk (ca_cons (ce_rev (lv := false) (ce_var 4)) (ca_nil))) sc_law.nd) (css_cons (cs_if (ct_w (cw_or (ct_not (ct_truth (ce_call (g__law_lies C) (hr.mono (by decide : 3 ≤ 5)) tk (ca_cons (ce_rev (lv := false) (ce_var 2)) (ca_cons (ce_var 10) (ca_nil)))))) (cw_or1 (ct_cmp (o_neD hr) (ce_call (g__law_bends C) (hr.mono (by decide : 1 ≤ 5)) tk (ca_cons (ce_var 10) (ca_nil))) (ce_var 7))))) (css_one (cs_ret (ce_bl))) (css_nil)) (css_cons (cs_set 11 (ce_call (g_bends C) (hr.mono (by decide : 1 ≤ 5)) tk (ca_cons (ce_tup (ca_nil)) (ca_nil))) sc_law.nd) (css_cons (cs_if (ct_w (cw_or (ct_not (ct_truth (ce_call (g__law_whole C) (hr.mono (by decide : 1 ≤ 5)) tk (ca_cons (ce_var 11) (ca_nil))))) (cw_or1 (ct_cmp (o_neD hr) (ce_var 11) (ce_int))))) (css_one (cs_ret (ce_bl))) (css_nil)) (css_cons (cs_set 12 (ce_callTy c_list (C.free 11 rfl) boot_list (ca_cons (ce_var 5) (ca_nil))) sc_law.nd) (css_cons (cs_expr (ce_append (ce_var 5) (ce_tup (ca_cons (ce_int) (ca_cons (ce_int) (ca_nil)))))) (css_cons (cs_if (ct_w (cw_or (ct_cmp (o_neD hr) (ce_call (g_runs C) (hr.mono (by decide : 4 ≤ 5)) tk (ca_cons (ce_var 4) (ca_nil))) (ce_var 12)) (cw_or1 (ct_cmp (o_neD hr) (ce_call (g_way C) (hr.mono (by decide : 5 ≤ 5)) tk (ca_cons (ce_var 4) (ca_nil))) (ce_var 6))))) (css_one (cs_ret (ce_bl))) (css_nil)) (css_one (cs_ret (ce_cmp (o_eqD hr) (ce_lc [13] rfl sc_law.nd (ci_val (ce_var 4)) (blkOk_by (N := N_law) (sc := defScope s_law) (own := [("one", 13)]) (by decide +kernel)) (fun _ _ _ _ _ => cg_name 13 sc_law.nd) (fun _ _ _ _ _ => cts_nil) (fun _ _ _ _ _ => ce_lst (ca_cons (ce_fld (ft_ok C) (ce_var 13)) (ca_cons (ce_fld (ft_ok C) (ce_var 13)) (ca_nil))))) (ce_var 2))))))))))))))))))))))
abbrev iLaw : Nat := 39
theorem o_law {P : Program} {w : World} {K : PySem.W.Frag} {mg : Str → Option Value} {base : Heap} (C : HC fa fn xf w K mg) {fd : FuncData} (F : FunD K "law" "law" (defArgs s_law) (defBody s_law) (defScope s_law) [] [] (He.fAd K ("law", none)) fd) : FnOk P w K mg base (L2.CX P w) 6 (He.fAd K ("law", none)) fd ["script"] (spM K m_law) := by
  refine fnok_of F sc_law (F.bindsN fun _ _ _ _ _ _ us hl => match us, hl with | [_], _ => rfl) fun cdv A outer s H E hr tk hp => ?_
  exact css_cons (cs_set 1 (ce_call (g__law_bag C) (hr.mono (by decide : 1 ≤ 5)) tk (ca_cons (ce_var 0) (ca_nil))) sc_law.nd) (css_cons (cs_set 2 (ce_call (g__law_chain C) (hr.mono (by decide : 4 ≤ 5)) tk (ca_cons (ce_var 1) (ca_nil))) sc_law.nd) (css_cons (cs_setLc 3 [14] rfl sc_law.nd (ci_range1 (C.free 5 rfl) (ce_int)) (blkOk_by (N := N_law) (sc := defScope s_law) (own := [("turn", 14)]) (by decide +kernel)) (fun _ _ _ _ _ => cg_name 14 sc_law.nd) (fun _ _ _ _ _ => cts_nil) (fun _ _ _ _ _ => ce_call (g__law_row C) (hr.mono (by decide : 2 ≤ 5)) takes_no (ca_cons (ce_var 1) (ca_cons (ce_var 2) (ca_nil))))) (css_cons (cs_set 4 (ce_call (g__law_made C) (hr.mono (by decide : 3 ≤ 5)) tk (ca_cons (ce_var 1) (ca_cons (ce_var 2) (ca_nil)))) sc_law.nd) (css_cons (cs_set 5 (ce_call (gL_runs C) (hr.mono (by decide : 4 ≤ 5)) tk (ca_cons (ce_var 4) (ca_nil))) sc_law.nd) (css_cons (cs_if (ct_not (ct_truth (ce_call (g__law_are_runs C) (hr.mono (by decide : 3 ≤ 5)) tk (ca_cons (ce_var 2) (ca_cons (ce_var 5) (ca_nil)))))) (css_one (cs_ret (ce_bl))) (css_nil)) (css_cons (cs_set 6 (ce_call (g_way C) (hr.mono (by decide : 5 ≤ 5)) tk (ca_cons (ce_var 4) (ca_nil))) sc_law.nd) (css_cons (cs_if (ct_w (cw_or (ct_not (ct_truth (ce_call (g__law_lies C) (hr.mono (by decide : 3 ≤ 5)) tk (ca_cons (ce_var 2) (ca_cons (ce_var 6) (ca_nil)))))) (cw_or1 (ct_cmp (o_neD hr) (ce_var 6) (ce_call (g__law_due_way C) (hr.mono (by decide : 2 ≤ 5)) tk (ca_cons (ce_var 2) (ca_cons (ce_var 5) (ca_nil)))))))) (css_one (cs_ret (ce_bl))) (css_nil)) (css_cons (cs_set 7 (ce_call (g__law_fewest C) (hr.mono (by decide : 1 ≤ 5)) tk (ca_cons (ce_var 2) (ca_nil))) sc_law.nd) (css_cons (cs_set 8 (ce_call (g_bends C) (hr.mono (by decide : 1 ≤ 5)) tk (ca_cons (ce_var 6) (ca_nil))) sc_law.nd) (css_cons (cs_if (ct_w (cw_or (ct_not (ct_truth (ce_call (g__law_whole C) (hr.mono (by decide : 1 ≤ 5)) tk (ca_cons (ce_var 8) (ca_nil))))) (cw_or (ct_cmp (o_neD hr) (ce_var 8) (ce_var 7)) (cw_or1 (ct_cmp (o_neD hr) (ce_callB c_len (C.free 2 rfl) boot_len (ca_cons (ce_var 5) (ca_nil))) (ce_bin o_addX (ce_var 7) (ce_int))))))) (css_one (cs_ret (ce_bl))) (css_nil)) (css_cons (cs_for hp rfl (ci_val (ce_var 3)) (cg_name 9 sc_law.nd) (css_cons (cs_set 8 (ce_call (g_bends C) (hr.mono (by decide : 1 ≤ 5)) tk (ca_cons (ce_callTy c_tuple (C.free 7 rfl) boot_tuple (ca_cons (ce_var 9) (ca_nil))) (ca_nil))) sc_law.nd) (css_one (cs_if (ct_w (cw_or (ct_not (ct_truth (ce_call (g__law_whole C) (hr.mono (by decide : 1 ≤ 5)) tk (ca_cons (ce_var 8) (ca_nil))))) (cw_or (ct_cmp (o_neD hr) (ce_var 8) (ce_call (g__law_bends C) (hr.mono (by decide : 1 ≤ 5)) tk (ca_cons (ce_var 9) (ca_nil)))) (cw_or1 (ct_cmp o_ltI (ce_var 8) (ce_var 7)))))) (css_one (cs_ret (ce_bl))) (css_nil))))) (css_cons (cs_set 10 (ce_call (g_way C) (hr.mono (by decide : 5 ≤ 5)) tk (ca_cons (ce_rev (lv := false) (ce_var 4)) (ca_nil))) sc_law.nd) (css_cons (cs_if (ct_w (cw_or (ct_not (ct_truth (ce_call (g__law_lies C) (hr.mono (by decide : 3 ≤ 5)) tk (ca_cons (ce_rev (lv := false) (ce_var 2)) (ca_cons (ce_var 10) (ca_nil)))))) (cw_or1 (ct_cmp (o_neD hr) (ce_call (g__law_bends C) (hr.mono (by decide : 1 ≤ 5)) tk (ca_cons (ce_var 10) (ca_nil))) (ce_var 7))))) (css_one (cs_ret (ce_bl))) (css_nil)) (css_cons (cs_set 11 (ce_call (g_bends C) (hr.mono (by decide : 1 ≤ 5)) tk (ca_cons (ce_tup (ca_nil)) (ca_nil))) sc_law.nd) (css_cons (cs_if (ct_w (cw_or (ct_not (ct_truth (ce_call (g__law_whole C) (hr.mono (by decide : 1 ≤ 5)) tk (ca_cons (ce_var 11) (ca_nil))))) (cw_or1 (ct_cmp (o_neD hr) (ce_var 11) (ce_int))))) (css_one (cs_ret (ce_bl))) (css_nil)) (css_cons (cs_set 12 (ce_callTy c_list (C.free 11 rfl) boot_list (ca_cons (ce_var 5) (ca_nil))) sc_law.nd) (css_cons (cs_expr (ce_append (ce_var 5) (ce_tup (ca_cons (ce_int) (ca_cons (ce_int) (ca_nil)))))) (css_cons (cs_if (ct_w (cw_or (ct_cmp (o_neD hr) (ce_call (g_runs C) (hr.mono (by decide : 4 ≤ 5)) tk (ca_cons (ce_var 4) (ca_nil))) (ce_var 12)) (cw_or1 (ct_cmp (o_neD hr) (ce_call (g_way C) (hr.mono (by decide : 5 ≤ 5)) tk (ca_cons (ce_var 4) (ca_nil))) (ce_var 6))))) (css_one (cs_ret (ce_bl))) (css_nil)) (css_one (cs_ret (ce_cmp (o_eqD hr) (ce_lc [13] rfl sc_law.nd (ci_val (ce_var 4)) (blkOk_by (N := N_law) (sc := defScope s_law) (own := [("one", 13)]) (by decide +kernel)) (fun _ _ _ _ _ => cg_name 13 sc_law.nd) (fun _ _ _ _ _ => cts_nil) (fun _ _ _ _ _ => ce_lst (ca_cons (ce_fld (ft_ok C) (ce_var 13)) (ca_cons (ce_fld (ft_ok C) (ce_var 13)) (ca_nil))))) (ce_var 2))))))))))))))))))))))
theorem g_law {P : Program} {w : World} {K : PySem.W.Frag} {mg : Str → Option Value} {base : Heap} (C : HC fa fn xf w K mg) : FnG P w K mg base 6 "law" m_law := ⟨_, C.glo 39 rfl, d_law C⟩
end K75
namespace K75
open PySem L2 ND
/-! ### draws -/
theorem draw_tail {n : Int} (hn : 0 < n) {seed turn : Int} (h1 : 0 ≤ seed) (h2 : seed < 1000000007) (h3 : 0 ≤ turn) (h4 : turn < 2 ^ 60) (p : Nat) (big left : Int) (cells : List D) :
    ∃ d : Int, 0 ≤ d ∧ d < n ∧ ∀ (r : Sto) (c x3 x4 x5 x6 : Option D), y__law_draw_4 [some (.ref 0), some (.int n), c, x3, x4, x5, x6] (.lst [.lst cells, .int p, .int big, .int seed, .int turn, .int left] :: r) = .rt (.int d) (.lst [.lst cells, .int p, .int big, .int seed, .int turn, .int left] :: r) := by
  generalize ea : (seed * 48271 + turn * 69621 + 12345) % 2147483647 = a
  have ha : 0 ≤ a ∧ a < 2147483647 := by omega
  generalize eb : (a * a + turn * 3571 + 40692) % 2147483399 = b
  have hb : 0 ≤ b ∧ b < 2147483399 := by omega
  generalize ec : (b * b + b / 97) % 2147483629 = t
  refine ⟨t / 3 % n, Int.emod_nonneg _ (by omega), Int.emod_lt_of_pos _ hn, fun r c x3 x4 x5 x6 => ?_⟩
  have m1 := op_mulS (st := .lst [.lst cells, .int p, .int big, .int seed, .int turn, .int left] :: r) (i := seed) (j := 48271) h1 (by omega) (by decide) (by decide)
  have m2 := op_mulS (st := .lst [.lst cells, .int p, .int big, .int seed, .int turn, .int left] :: r) (i := turn) (j := 69621) h3 h4 (by decide) (by decide)
  have m3 := op_mulS (st := .lst [.lst cells, .int p, .int big, .int seed, .int turn, .int left] :: r) (i := turn) (j := 3571) h3 h4 (by decide) (by decide)
  have m4 := op_mulS (st := .lst [.lst cells, .int p, .int big, .int seed, .int turn, .int left] :: r) (i := a) (j := a) ha.1 (by omega) ha.1 (by omega)
  have m5 := op_mulS (st := .lst [.lst cells, .int p, .int big, .int seed, .int turn, .int left] :: r) (i := b) (j := b) hb.1 (by omega) hb.1 (by omega)
  have q1 := op_modI (st := .lst [.lst cells, .int p, .int big, .int seed, .int turn, .int left] :: r) (i := seed * 48271 + turn * 69621 + 12345) (j := 2147483647) (by decide)
  have q2 := op_modI (st := .lst [.lst cells, .int p, .int big, .int seed, .int turn, .int left] :: r) (i := a * a + turn * 3571 + 40692) (j := 2147483399) (by decide)
  have q3 := op_modI (st := .lst [.lst cells, .int p, .int big, .int seed, .int turn, .int left] :: r) (i := b * b + b / 97) (j := 2147483629) (by decide)
  have q4 := op_divS (st := .lst [.lst cells, .int p, .int big, .int seed, .int turn, .int left] :: r) (i := b) (j := 97) (by decide) (by decide)
  have q5 := op_divS (st := .lst [.lst cells, .int p, .int big, .int seed, .int turn, .int left] :: r) (i := t) (j := 3) (by decide) (by decide)
  have q6 := op_modI (st := .lst [.lst cells, .int p, .int big, .int seed, .int turn, .int left] :: r) (i := t / 3) (j := n) hn
  rw [ea] at q1
  rw [eb] at q2
  rw [ec] at q3
  simp [y__law_draw_4, y__law_draw_5, y__law_draw_6, y__law_draw_7, m1, m2, m3, m4, m5, q1, q2, q3, q4, q5, q6]
theorem draw_mid {n : Int} (hn : 0 < n) (hn2 : n < 2 ^ 60) {cells : List Int} {big seed turn : Int} (hc : ∀ c ∈ cells, 0 ≤ c) (hb : 0 ≤ big) (h1 : 0 ≤ seed) (h2 : seed < 1000000007) (h3 : 0 ≤ turn) {k : Nat} (h4 : turn ≤ k) (hk : k < 2 ^ 59) (p : Nat) (left : Int) :
    ∃ (d : Int) (b' : SO), BagOk b' (k + 1) ∧ 0 ≤ d ∧ d < n ∧ ∀ (r : Sto) (c : Option D), y__law_draw_1 [some (.ref 0), some (.int n), c, none, none, none, none] (.lst [.lst (cells.map .int), .int p, .int big, .int seed, .int turn, .int left] :: r) = .rt (.int d) (b' :: r) := by
  by_cases hbig : 0 < big
  · refine ⟨big % n, .lst [.lst (cells.map .int), .int p, .int (big / n), .int seed, .int turn, .int left], ⟨cells, p, big / n, seed, turn, left, rfl, hc, Int.ediv_nonneg hb (by omega), h1, h2, h3, by omega⟩, Int.emod_nonneg _ (by omega), Int.emod_lt_of_pos _ hn, fun r c => ?_⟩
    have q1 := op_modI (st := .lst [.lst (cells.map .int), .int p, .int big, .int seed, .int turn, .int left] :: r) (i := big) (j := n) hn
    have q2 := op_divS (st := .lst [.lst (cells.map .int), .int p, .int big, .int seed, .int turn, .int left] :: r) (i := big) (j := n) hn hn2
    simp [y__law_draw_1, hbig, q1, q2]
  · by_cases hl : 0 < left
    · obtain ⟨d, hd, hd2, e⟩ := draw_tail hn (seed := seed) (turn := turn + 1) h1 h2 (by omega) (by omega) p big (left - 1) (cells.map .int)
      refine ⟨d, _, ⟨cells, p, big, seed, turn + 1, left - 1, rfl, hc, hb, h1, h2, by omega, by push_cast; omega⟩, hd, hd2, fun r c => ?_⟩
      simp [y__law_draw_1, y__law_draw_2, y__law_draw_3, hbig, hl, e]
    · obtain ⟨d, hd, hd2, e⟩ := draw_tail hn (seed := seed) (turn := turn + 1) h1 h2 (by omega) (by omega) p big left (cells.map .int)
      refine ⟨d, _, ⟨cells, p, big, seed, turn + 1, left, rfl, hc, hb, h1, h2, by omega, by push_cast; omega⟩, hd, hd2, fun r c => ?_⟩
      simp [y__law_draw_1, y__law_draw_2, y__law_draw_3, hbig, hl, e]
/-- one draw -/
theorem draw_ok {b : SO} {k : Nat} (hb : BagOk b k) (hk : k < 2 ^ 59) {n : Int} (hn : 0 < n) (hn2 : n < 2 ^ 60) :
    ∃ (d : Int) (b' : SO), BagOk b' (k + 1) ∧ 0 ≤ d ∧ d < n ∧ ∀ r : Sto, m__law_draw [.ref 0, .int n] (b :: r) = .ok (.int d) (b' :: r) := by
  obtain ⟨cells, p, big, seed, turn, left, rfl, hc, h0, h1, h2, h3, h4⟩ := hb.ex
  have fin1 : ∀ {d : Int} {b' : SO} {r : Sto} {s : SRes}, BagOk b' (k + 1) → y__law_draw [some (.ref 0), some (.int n), none, none, none, none, none] (.lst [.lst (cells.map .int), .int p, .int big, .int seed, .int turn, .int left] :: r) = .rt (.int d) (b' :: r) →
      m__law_draw [.ref 0, .int n] (.lst [.lst (cells.map .int), .int p, .int big, .int seed, .int turn, .int left] :: r) = .ok (.int d) (b' :: r) := by
    intro d b' r s hb' e
    have e2 : m__law_draw [.ref 0, .int n] (.lst [.lst (cells.map .int), .int p, .int big, .int seed, .int turn, .int left] :: r) = fnEnd false (.lst [.lst (cells.map .int), .int p, .int big, .int seed, .int turn, .int left] :: r) (y__law_draw [some (.ref 0), some (.int n), none, none, none, none, none] (.lst [.lst (cells.map .int), .int p, .int big, .int seed, .int turn, .int left] :: r)) := rfl
    rw [e2, e, end_rt_f, fin_bag0 hb'.pd rfl]
  by_cases hA : big = 0 ∧ left = 0 ∧ p < cells.length
  · obtain ⟨rfl, rfl, hp⟩ := hA
    have hc0 : 0 ≤ cells[p] := hc _ (List.getElem_mem hp)
    have hi : (cells.map D.int)[p]? = some (.int cells[p]) := by rw [List.getElem?_map, List.getElem?_eq_getElem hp] <;> rfl
    have ha : atI (cells.map D.int) (p : Int) = some (.int cells[p]) := by rw [at_nat, hi]
    have pw : ∀ st : Sto, powI (.int 10) (.int 18) st = .ok (.int (10 ^ 18)) st := fun st => op_powI (powC_mk (by decide) (by decide) (by decide))
    by_cases hbig : 10 ^ 18 ≤ cells[p]
    · obtain ⟨d, b', hb', hd, hd2, e⟩ := draw_mid hn hn2 hc hc0 h1 h2 h3 h4 hk (p + 1) 0
      refine ⟨d, b', hb', hd, hd2, fun r => fin1 (s := .bad) hb' ?_⟩
      have e' := e r (some (.int cells[p]))
      simp at hbig
      simp [y__law_draw, ha, hp, pw, hbig]
      simpa using e'
    · obtain ⟨d, b', hb', hd, hd2, e⟩ := draw_mid hn hn2 (big := 0) (seed := (seed * 31 + cells[p]) % 1000000007) hc (by decide) (by omega) (by omega) h3 h4 hk (p + 1) 5
      refine ⟨d, b', hb', hd, hd2, fun r => fin1 (s := .bad) hb' ?_⟩
      have e' := e r (some (.int cells[p]))
      have q1 : ∀ st : Sto, mulI (.int seed) (.int 31) st = .ok (.int (seed * 31)) st := fun st => op_mulS h1 (by omega) (by decide) (by decide)
      have q2 : ∀ st : Sto, modI (.int (seed * 31 + cells[p])) (.int 1000000007) st = .ok (.int ((seed * 31 + cells[p]) % 1000000007)) st := fun st => op_modI (by decide)
      simp at hbig
      have hbig' : ¬ (1000000000000000000 ≤ cells[p]) := by omega
      simp [y__law_draw, ha, hp, pw, hbig', q1, q2]
      simpa using e'
  · obtain ⟨d, b', hb', hd, hd2, e⟩ := draw_mid hn hn2 hc h0 h1 h2 h3 h4 hk p left
    refine ⟨d, b', hb', hd, hd2, fun r => fin1 (s := .bad) hb' ?_⟩
    have e' := e r none
    by_cases ha : big = 0
    · by_cases hl : left = 0
      · have hp : ¬ p < cells.length := fun h => hA ⟨ha, hl, h⟩
        have hp' : ¬ (p : Int) < (cells.length : Int) := by omega
        simp [y__law_draw, ha, hl, hp']
        simpa [ha, hl] using e'
      · simp [y__law_draw, ha, hl]
        simpa [ha] using e'
    · simp [y__law_draw, ha]
      exact e'
end K75
namespace K75
open PySem L2 ND
theorem bag_ok (ns : List Int) (h : ns.length ≤ 63) : ∃ b, BagOk b 0 ∧ m__law_bag [.ext ns] [] = .ok (.ref 0) [b] := by
  refine ⟨.lst [.lst ((ns.map absI).map .int), .int 0, .int 0, .int 0, .int 0, .int 0], ⟨ns.map absI, 0, 0, 0, 0, 0, rfl, fun c hc => ?_, by decide, by decide, by decide, by decide, by decide⟩, ?_⟩
  · obtain ⟨x, _, rfl⟩ := List.mem_map.mp hc
    unfold absI
    split <;> omega
  · have e := comp_map (g := gNm 1) (me := eC (i1 fun i => .int (absI i)) (aCons (eC intD (aCons (eVar 1) aNil)) aNil)) (env := [some (.ext ns), none]) (st := []) (fun d => match d with
      | .int i => .int (absI i)
      | d => d) (all := ns.map .int) (fun d hd => by
        obtain ⟨x, _, rfl⟩ := List.mem_map.mp hd
        exact ⟨_, rfl, by simp⟩) (by rw [sizeLine_eq, List.length_map]; omega)
    have e2 : (ns.map D.int).map (fun d => match d with
      | .int i => .int (absI i)
      | d => d) = (ns.map absI).map D.int := by
      rw [List.map_map, List.map_map]
      rfl
    rw [e2] at e
    have hz : (6 : Nat) ≤ sizeLine := by rw [sizeLine_eq]; decide
    simp only [List.length_map] at e
    have f := finL_new (r := []) (xs := [.lst ((ns.map absI).map .int), .int 0, .int 0, .int 0, .int 0, .int 0]) (by
      show (pds ((ns.map absI).map D.int) && true) = true
      rw [pds_ints] <;> rfl)
    simp [m__law_bag, ND.fn, y__law_bag, e, hz]
    simpa using f
theorem pick_ok {b : SO} {k : Nat} (hb : BagOk b k) (hk : k < 2 ^ 59) {xs : List Int} (h0 : 0 < xs.length) (h1 : xs.length < 2 ^ 59) :
    ∃ (d : Int) (b' : SO), BagOk b' (k + 1) ∧ d ∈ xs ∧ ∀ r : Sto, m__law_pick [.ref 0, .lst (xs.map .int)] (b :: r) = .ok (.int d) (b' :: r) := by
  obtain ⟨d, b', hb', hd, hd2, e⟩ := draw_ok hb hk (n := xs.length) (by omega) (by omega)
  have hl : d.toNat < xs.length := by omega
  refine ⟨xs[d.toNat], b', hb', List.getElem_mem hl, fun r => ?_⟩
  have ha : atI (xs.map D.int) d = some (.int xs[d.toNat]) := by
    rw [at_pos hd, List.getElem?_map, List.getElem?_eq_getElem hl]
    rfl
  have f := fin_bag0 (b := b) (r := r) hb'.pd (d := .int xs[d.toNat]) rfl
  simp [m__law_pick, ND.fn, y__law_pick, e, ha, f]
theorem pow_ok {i j : Int} {st : Sto} (h : powC i j = true) : powI (.int i) (.int j) st = .ok (.int (i ^ j.toNat)) st := op_powI h
theorem far_ok {b : SO} {k : Nat} (hb : BagOk b k) (hk : k < 2 ^ 58) : ∃ (d : Int) (b' : SO), BagOk b' (k + 3) ∧ (-1000000000 ≤ d ∧ d ≤ 1000000000) ∧ ∀ r : Sto, m__law_far [.ref 0] (b :: r) = .ok (.int d) (b' :: r) := by
  obtain ⟨d1, b1, hb1, l1, u1, e1⟩ := draw_ok hb (by omega) (n := 31623) (by decide) (by decide)
  obtain ⟨d2, b2, hb2, l2, u2, e2⟩ := draw_ok hb1 (by omega) (n := 31623) (by decide) (by decide)
  obtain ⟨d3, b3, hb3, l3, u3, e3⟩ := draw_ok hb2 (by omega) (n := 2) (by decide) (by decide)
  have m1 : ∀ st : Sto, mulI (.int d1) (.int 31623) st = .ok (.int (d1 * 31623)) st := fun st => op_mulS l1 (by omega) (by decide) (by decide)
  generalize es : minI (d1 * 31623 + d2) 1000000000 = s
  have hs : 0 ≤ s ∧ s ≤ 1000000000 := by
    rw [← es]
    unfold minI
    split <;> omega
  have m2 : ∀ st : Sto, mulI (.int 2) (.int s) st = .ok (.int (2 * s)) st := fun st => op_mulS (by decide) (by decide) hs.1 (by omega)
  have m3 : ∀ st : Sto, mulI (.int (2 * s)) (.int d3) st = .ok (.int (2 * s * d3)) st := fun st => op_mulS (by omega) (by omega) l3 (by omega)
  have p1 : ∀ st : Sto, powI (.int 10) (.int 9) st = .ok (.int (10 ^ 9)) st := fun st => op_powI (powC_mk (by decide) (by decide) (by decide))
  have hd : -1000000000 ≤ s - 2 * s * d3 ∧ s - 2 * s * d3 ≤ 1000000000 := by
    rcases (by omega : d3 = 0 ∨ d3 = 1) with z | z
    · rw [z]
      omega
    · rw [z]
      omega
  refine ⟨s - 2 * s * d3, b3, hb3, hd, fun r => ?_⟩
  have f := fin_bag0 (b := b) (r := r) hb3.pd (d := .int (s - 2 * s * d3)) rfl
  simp [m__law_far, ND.fn, y__law_far, y__law_far_1, e1, e2, e3, m1, m2, m3, p1, es, f]
def near (x : Int) : Int := maxI (-1000000000) (minI x 1000000000)
theorem beside_ok {b : SO} {k : Nat} (hb : BagOk b k) (hk : k < 2 ^ 58) (x y : Int) : ∃ (d : Int) (b' : SO), BagOk b' (k + 1) ∧ (-1000000000 ≤ d ∧ d ≤ 1000000000) ∧ ∀ r : Sto, m__law_beside [.ref 0, .lst [.int x, .int y]] (b :: r) = .ok (.int d) (b' :: r) := by
  obtain ⟨d, b', hb', hd, e⟩ := pick_ok hb (by omega) (xs := [x - 1, x, (x + y) / 2, y, y + 1]) (by simp) (by simp)
  have hd2 : -1000000000 ≤ near d ∧ near d ≤ 1000000000 := by
    unfold near maxI minI
    split <;> split <;> omega
  refine ⟨near d, b', hb', hd2, fun r => ?_⟩
  have f := fin_bag0 (b := b) (r := r) hb'.pd (d := .int (near d)) rfl
  have q : ∀ st : Sto, divI (.int (x + y)) (.int 2) st = .ok (.int ((x + y) / 2)) st := fun st => op_divS (by decide) (by decide)
  have hz : (5 : Nat) ≤ sizeLine := by rw [sizeLine_eq]; decide
  have p1 : ∀ st : Sto, powI (.int 10) (.int 9) st = .ok (.int (10 ^ 9)) st := fun st => op_powI (powC_mk (by decide) (by decide) (by decide))
  simp at e
  simp [m__law_beside, ND.fn, y__law_beside, y__law_beside_1, q, hz, e, p1]
  exact f

end K75
namespace K75
open PySem L2 ND
abbrev Sp2 : Type := Int × Int
def enc (s : Sp2) : D := .lst [.int s.1, .int s.2]
def encs (ss : List Sp2) : List D := ss.map enc
theorem pds_encs : ∀ ss : List Sp2, pds (encs ss) = true
  | [] => rfl
  | s :: ss => by
    show (pd (enc s) && pds (encs ss)) = true
    rw [pds_encs ss]
    rfl
theorem sorted2 (x y : Int) : ∃ s : Sp2, (s.1 ≤ s.2 ∧ (s = (x, y) ∨ s = (y, x))) ∧ ∀ st : Sto, sortedD false [.lst [.int x, .int y]] st = .ok (enc s) st := by
  have e : ∀ st : Sto, _ := fun st => sorted_ints (lv := false) (ns := [x, y]) (st := st) (by simp)
  rw [sort2] at e
  by_cases h : x ≤ y
  · rw [if_pos h] at e
    exact ⟨(x, y), ⟨h, .inl rfl⟩, e⟩
  · rw [if_neg h] at e
    exact ⟨(y, x), ⟨by show y ≤ x; omega, .inr rfl⟩, e⟩
abbrev Sp (s : Sp2) : Prop := -1000000000 ≤ s.1 ∧ s.1 ≤ s.2 ∧ s.2 ≤ 1000000000
theorem sp_of {x y : Int} {s : Sp2} (h : s.1 ≤ s.2 ∧ (s = (x, y) ∨ s = (y, x))) (hx : -1000000000 ≤ x ∧ x ≤ 1000000000) (hy : -1000000000 ≤ y ∧ y ≤ 1000000000) : Sp s := by
  rcases h with ⟨h, rfl | rfl⟩
  · have h : x ≤ y := h
    exact ⟨hx.1, h, hy.2⟩
  · have h : y ≤ x := h
    exact ⟨hy.1, h, hx.2⟩
theorem encs_snoc (ss : List Sp2) (s : Sp2) : encs (ss ++ [s]) = encs ss ++ [enc s] := by
  unfold encs
  rw [List.map_append]
  rfl
theorem encs_last {ss : List Sp2} (h : 0 < ss.length) : ∃ s : Sp2, s ∈ ss ∧ atI (encs ss) (-1) = some (enc s) := by
  have h1 : ss ≠ [] := List.length_pos_iff.mp h
  have h2 : encs ss ≠ [] := fun e => h1 (List.map_eq_nil_iff.mp e)
  refine ⟨ss.getLast h1, List.getLast_mem h1, ?_⟩
  rw [at_last h2]
  have e : (encs ss).getLast h2 = enc (ss.getLast h1) := List.getLast_map (f := enc) (h := h2)
  rw [e]
theorem chain_step {b : SO} {k : Nat} (hb : BagOk b k) (hk : k < 2 ^ 55) {ss : List Sp2} {i : Nat} (hi : ss.length = i) (hi2 : i < 1000) (many : Int) :
    ∃ (s : Sp2) (b' : SO), BagOk b' (k + 10) ∧ Sp s ∧ ∀ (r : Sto) (x4 x5 x6 : Option D), ∃ y4 y5 y6, l1__law_chain [some (.ref 0), some (.int many), some (.ref (r.length + 1)), some (.int i), x4, x5, x6] (b :: (r ++ [.lst (encs ss)])) =
      .nx [some (.ref 0), some (.int many), some (.ref (r.length + 1)), some (.int i), y4, y5, y6] (b' :: (r ++ [.lst (encs (ss ++ [s]))])) := by
  obtain ⟨w, b1, hb1, l1, u1, e1⟩ := draw_ok hb (by omega) (n := 5) (by decide) (by decide)
  have ha : ∀ (b : SO) (r : Sto) (s : Sp2), appendD (.ref (r.length + 1)) [enc s] (b :: (r ++ [.lst (encs ss)])) = .ok .non (b :: (r ++ [.lst (encs (ss ++ [s]))])) := fun b r s => by
    rw [app_last (by unfold encs; rw [List.length_map]; omega), encs_snoc]
  have h2 : (2 : Nat) ≤ sizeLine := by rw [sizeLine_eq]; decide
  by_cases w4 : w = 4
  · subst w4
    obtain ⟨d1, b2, hb2, i1, e2⟩ := far_ok hb1 (by omega)
    obtain ⟨d2, b3, hb3, i2, e3⟩ := far_ok hb2 (by omega)
    obtain ⟨s, hs2, e4⟩ := sorted2 d1 d2
    refine ⟨s, b3, hb3.mono (by omega), sp_of hs2 i1 i2, fun r x4 x5 x6 => ⟨some (.int 4), x5, x6, ?_⟩⟩
    simp [l1__law_chain, l1__law_chain_1, e1, e2, e3, e4, h2, ha]
  · by_cases w2 : w < 2 ∨ i = 0
    · obtain ⟨d1, b2, hb2, l2, u2, e2⟩ := draw_ok hb1 (by omega) (n := 12) (by decide) (by decide)
      obtain ⟨d2, b3, hb3, l3, u3, e3⟩ := draw_ok hb2 (by omega) (n := 6) (by decide) (by decide)
      refine ⟨(d1 - 4, d1 - 4 + d2), b3, hb3.mono (by omega), ⟨by show -1000000000 ≤ d1 - 4; omega, by show d1 - 4 ≤ d1 - 4 + d2; omega, by show d1 - 4 + d2 ≤ 1000000000; omega⟩, fun r x4 x5 x6 => ⟨some (.int w), some (.int (d1 - 4)), x6, ?_⟩⟩
      have ha' := ha b3 r (d1 - 4, d1 - 4 + d2)
      unfold enc at ha'
      by_cases w3 : w < 2
      · simp [l1__law_chain, l1__law_chain_1, e1, e2, e3, w4, w3, h2, ha']
      · have hi0 : i = 0 := by omega
        subst hi0
        simp [l1__law_chain, l1__law_chain_1, e1, e2, e3, w4, w3, h2, ha']
    · have hl : 0 < ss.length := by omega
      have w3 : ¬ w < 2 := by omega
      have hi0 : ¬ i = 0 := by omega
      have hi1 : ¬ (i : Int) = 0 := by omega
      obtain ⟨z, hz, ez⟩ := encs_last hl
      unfold enc at ez
      by_cases w5 : w = 2
      · subst w5
        obtain ⟨d1, b2, hb2, i1, e2⟩ := beside_ok hb1 (by omega) z.1 z.2
        refine ⟨(d1, d1), b2, hb2.mono (by omega), ⟨i1.1, Int.le_refl _, i1.2⟩, fun r x4 x5 x6 => ⟨some (.int 2), x5, some (.int d1), ?_⟩⟩
        have ha' := ha b2 r (d1, d1)
        unfold enc at ha'
        simp [l1__law_chain, l1__law_chain_1, e1, e2, h2, hi1, hi0, negI, ez, ha']
      · obtain ⟨d1, b2, hb2, i1, e2⟩ := beside_ok hb1 (by omega) z.1 z.2
        obtain ⟨d2, b3, hb3, i2, e3⟩ := beside_ok hb2 (by omega) z.1 z.2
        obtain ⟨s, hs2, e4⟩ := sorted2 d1 d2
        refine ⟨s, b3, hb3.mono (by omega), sp_of hs2 i1 i2, fun r x4 x5 x6 => ⟨some (.int w), x5, x6, ?_⟩⟩
        simp [l1__law_chain, l1__law_chain_1, e1, e2, e3, e4, h2, hi1, hi0, w3, w4, w5, negI, ez, ha]
theorem chain_tail {b2 b3 : SO} {many : Nat} (hm : many ≤ 40) {r : Sto} {ss : List Sp2} {y3 y4 y5 y6 : Option D}
    (hl : loopR (Src.fz (rangeD 0 many)).rd (gNm 3) l1__law_chain many 0 [some (.ref 0), some (.int many), some (.ref (r.length + 1)), none, none, none, none] (b2 :: (r ++ [.lst []])) = .nx [some (.ref 0), some (.int many), some (.ref (r.length + 1)), y3, y4, y5, y6] (b3 :: (r ++ [.lst (encs ss)]))) :
    y__law_chain_2 [some (.ref 0), some (.int many), none, none, none, none, none] (b2 :: r) = .rt (.ref (r.length + 1)) (b3 :: (r ++ [.lst (encs ss)])) := by
  unfold y__law_chain_2 y__law_chain_3 y__law_chain_4
  have e : sSet 2 (eLst true aNil) [some (.ref 0), some (.int many), none, none, none, none, none] (b2 :: r) = .nx [some (.ref 0), some (.int many), some (.ref (r.length + 1)), none, none, none, none] (b2 :: (r ++ [.lst []])) := set_new
  rw [ev_sSeq, e, seq_nx, ev_sSeq, for_rng rfl (by omega) hl, seq_nx]
  rfl
theorem chain_ok {b : SO} {k : Nat} (hb : BagOk b k) (hk : k < 2 ^ 50) (r : Sto) : ∃ (ss : List Sp2) (b' : SO), BagOk b' (k + 1000) ∧ 0 < ss.length ∧ ss.length ≤ 40 ∧ (∀ s ∈ ss, Sp s) ∧ m__law_chain [.ref 0] (b :: r) = .ok (.lst (encs ss)) (b' :: r) := by
  -- the number of spans
  obtain ⟨many, b2, hb2, h1, h2, e⟩ : ∃ (many : Nat) (b2 : SO), BagOk b2 (k + 3) ∧ 0 < many ∧ many ≤ 40 ∧ ∀ x : Sto, y__law_chain [some (.ref 0), none, none, none, none, none, none] (b :: x) = y__law_chain_2 [some (.ref 0), some (.int many), none, none, none, none, none] (b2 :: x) := by
    obtain ⟨d1, b1, hb1, l1, u1, e1⟩ := draw_ok hb (by omega) (n := 8) (by decide) (by decide)
    obtain ⟨d2, b2, hb2, l2, u2, e2⟩ := draw_ok hb1 (by omega) (n := 16) (by decide) (by decide)
    by_cases h7 : d2 = 7
    · subst h7
      obtain ⟨d3, b3, hb3, l3, u3, e3⟩ := draw_ok hb2 (by omega) (n := 40) (by decide) (by decide)
      refine ⟨(1 + d3).toNat, b3, hb3, by omega, by omega, fun x => ?_⟩
      have : (((1 + d3).toNat : Nat) : Int) = 1 + d3 := by omega
      rw [this]
      simp [y__law_chain, y__law_chain_1, e1, e2, e3]
    · refine ⟨(1 + d1).toNat, b2, hb2.mono (by omega), by omega, by omega, fun x => ?_⟩
      have : (((1 + d1).toNat : Nat) : Int) = 1 + d1 := by omega
      rw [this]
      simp [y__law_chain, y__law_chain_1, e1, e2, h7]
  obtain ⟨e3, s3, hl, ss, b3, y3, y4, y5, y6, g1, g2, g3, g4, g5⟩ := loop_inv (ds := rangeD 0 many) (g := gNm 3) (body := l1__law_chain)
    (fun i env st => ∃ (ss : List Sp2) (b' : SO) (y3 y4 y5 y6 : Option D), ss.length = i ∧ (∀ s ∈ ss, Sp s) ∧ BagOk b' (k + 3 + 10 * i) ∧ env = [some (.ref 0), some (.int many), some (.ref (r.length + 1)), y3, y4, y5, y6] ∧ st = b' :: (r ++ [.lst (encs ss)]))
    (fun i d env st hd ⟨ss, b', y3, y4, y5, y6, q1, q2, q3, q4, q5⟩ => by
      obtain ⟨rfl, hi⟩ := range_get hd
      subst q4 q5
      obtain ⟨s, b4, hb4, hs, e4⟩ := chain_step q3 (by omega) q1 (by omega) many
      obtain ⟨z4, z5, z6, e5⟩ := e4 r y4 y5 y6
      refine ⟨_, rfl, _, _, .inl ?_, ss ++ [s], b4, some (.int (0 + (i : Int))), z4, z5, z6, by rw [List.length_append, q1]; rfl, fun t ht => ?_, hb4.mono (by omega), rfl, rfl⟩
      · have z : (0 : Int) + (i : Int) = i := by omega
        rw [z]
        exact e5
      · rcases List.mem_append.mp ht with ht | ht
        · exact q2 t ht
        · rw [List.mem_singleton.mp ht]
          exact hs) many 0 [some (.ref 0), some (.int many), some (.ref (r.length + 1)), none, none, none, none] (b2 :: (r ++ [.lst []])) (by simp) ⟨[], b2, none, none, none, none, rfl, fun s hs => absurd hs List.not_mem_nil, hb2, rfl, rfl⟩
  rw [range_len] at g1 g3
  subst g4 g5
  refine ⟨ss, b3, g3.mono (by omega), by omega, by omega, g2, ?_⟩
  have f := fin_bag_new (b := b) (b' := b3) (r := r) (ex := [.lst (encs ss)]) (j := 0) g3.pd rfl (pds_encs ss)
  have e1 : m__law_chain [.ref 0] (b :: r) = fnEnd false (b :: r) (y__law_chain [some (.ref 0), none, none, none, none, none, none] (b :: r)) := rfl
  rw [e1, e r, chain_tail (by omega) hl, end_rt_f]
  exact f
def spanD (s : Sp2) : D := .ins "Span" ["low", "high"] [.int s.1, .int s.2]
def spans (ss : List Sp2) : List D := ss.map spanD
theorem pds_spans : ∀ ss : List Sp2, pds (spans ss) = true
  | [] => rfl
  | s :: ss => by
    show (pd (spanD s) && pds (spans ss)) = true
    rw [pds_spans ss]
    rfl
theorem init_ok {a c : Int} (h : a ≤ c) {st : Sto} : m_Spanuu_inituu [.ref st.length, .int a, .int c] (st ++ [.ins "Span" [] []]) = .ok .non (st ++ [.ins "Span" ["low", "high"] [.int a, .int c]]) := by
  have h1 : ¬ c < a := by omega
  have e1 : y_Spanuu_inituu [some (.ref st.length), some (.int a), some (.int c)] (st ++ [.ins "Span" [] []]) = .nx [some (.ref st.length), some (.int a), some (.int c)] (st ++ [.ins "Span" ["low", "high"] [.int a, .int c]]) := by
    simp [y_Spanuu_inituu, y_Spanuu_inituu_1, y_Spanuu_inituu_2, h1, fput, ftL]
  have e2 : m_Spanuu_inituu [.ref st.length, .int a, .int c] (st ++ [.ins "Span" [] []]) = fnEnd false (st ++ [.ins "Span" [] []]) (y_Spanuu_inituu [some (.ref st.length), some (.int a), some (.int c)] (st ++ [.ins "Span" [] []])) := rfl
  rw [e2, e1, end_nx]
  exact fin_obj rfl
theorem make_ok {a c : Int} (h : a ≤ c) {st : Sto} : mkI "Span" m_Spanuu_inituu false [.int a, .int c] st = .ok (spanD (a, c)) st := by
  unfold mkI
  rw [init_ok h]
  exact fin_ins rfl
def over (s t : Sp2) : Option Sp2 := if min s.2 t.2 < max s.1 t.1 then none else some (max s.1 t.1, min s.2 t.2)
def overD (o : Option Sp2) : D := match o with
  | some s => spanD s
  | none => .non
theorem maxI_eq (i j : Int) : maxI i j = max i j := by unfold maxI; split <;> omega
theorem minI_eq (i j : Int) : minI i j = min i j := by unfold minI; split <;> omega
theorem and_ok {s t : Sp2} {st : Sto} : m_Spanuu_anduu [spanD s, spanD t] st = .ok (overD (over s t)) st := by
  have e2 : m_Spanuu_anduu [spanD s, spanD t] st = fnEnd false st (y_Spanuu_anduu [some (spanD s), some (spanD t), none, none] st) := rfl
  have e1 : y_Spanuu_anduu [some (spanD s), some (spanD t), none, none] st = y_Spanuu_anduu_2 [some (spanD s), some (spanD t), some (.int (max s.1 t.1)), some (.int (min s.2 t.2))] st := by
    simp [y_Spanuu_anduu, y_Spanuu_anduu_1, spanD, ftL, fget, maxI_eq, minI_eq]
  rw [e2, e1]
  unfold over
  by_cases h : min s.2 t.2 < max s.1 t.1
  · rw [if_pos h]
    have e3 : y_Spanuu_anduu_2 [some (spanD s), some (spanD t), some (.int (max s.1 t.1)), some (.int (min s.2 t.2))] st = .rt .non st := by
      simp only [y_Spanuu_anduu_2, ev_sSeq, ev_sIf, ev_toB, ev_e2, ev_eVar, List.getElem?_cons_succ, List.getElem?_cons_zero, Res.bind_ok, op_gtI, decide_eq_true h, toS_ok, if_pos, ev_sRet, ev_eK, seq_rt]
    rw [e3, end_rt_f]
    exact fin_none0 rfl
  · rw [if_neg h]
    have e4 := make_ok (a := max s.1 t.1) (c := min s.2 t.2) (by omega) (st := st)
    have e3 : y_Spanuu_anduu_2 [some (spanD s), some (spanD t), some (.int (max s.1 t.1)), some (.int (min s.2 t.2))] st = .rt (spanD (max s.1 t.1, min s.2 t.2)) st := by
      simp only [y_Spanuu_anduu_2, y_Spanuu_anduu_3, ev_sSeq, ev_sIf, ev_toB, ev_e2, ev_eVar, List.getElem?_cons_succ, List.getElem?_cons_zero, Res.bind_ok, op_gtI, decide_eq_false h, toS_ok, Bool.false_eq_true, if_false, ev_sNil, seq_nx, ev_sRet, ev_eC, ev_aCons, ev_aNil, e4]
    rw [e3, end_rt_f]
    exact fin_none0 rfl
theorem both_ok {s t : Sp2} {st : Sto} : bothD [("Span", m_Spanuu_anduu)] (spanD s) (spanD t) st = .ok (overD (over s t)) st := by
  have : bothD [("Span", m_Spanuu_anduu)] (spanD s) (spanD t) st = m_Spanuu_anduu [spanD s, spanD t] st := rfl
  rw [this, and_ok]
theorem isN_over {o : Option Sp2} {st : Sto} : isN false (overD o) .non st = .ok (.bl o.isNone) st := by
  cases o <;> rfl
def runsG (first : Nat) (sh : Sp2) (k : Nat) : List Sp2 → List (Nat × Nat)
  | [] => [(first, k - 1)]
  | s :: rest => match over sh s with
    | none => (first, k - 1) :: runsG k s (k + 1) rest
    | some u => runsG first u (k + 1) rest
def runsL : List Sp2 → List (Nat × Nat)
  | [] => []
  | s :: rest => runsG 0 s 1 rest
def pairN (p : Nat × Nat) : D := .tup [.int p.1, .int p.2]
def pairs (ps : List (Nat × Nat)) : List D := ps.map pairN
theorem pds_pairs : ∀ ps : List (Nat × Nat), pds (pairs ps) = true
  | [] => rfl
  | p :: ps => by
    show (pd (pairN p) && pds (pairs ps)) = true
    rw [pds_pairs ps]
    rfl
theorem runsG_len (first : Nat) (sh : Sp2) (k : Nat) (rest : List Sp2) : (runsG first sh k rest).length ≤ rest.length + 1 := by
  induction rest generalizing first sh k with
  | nil => exact Nat.le_refl _
  | cons s rest ih =>
    unfold runsG
    cases over sh s with
    | none =>
      show (runsG k s (k + 1) rest).length + 1 ≤ rest.length + 1 + 1
      have := ih k s (k + 1)
      omega
    | some u =>
      show (runsG first u (k + 1) rest).length ≤ rest.length + 1 + 1
      have := ih first u (k + 1)
      omega
theorem span_at {ss : List Sp2} {i : Nat} (h : i < ss.length) : atI (spans ss) (i : Int) = some (spanD ss[i]) := by
  rw [at_nat]
  unfold spans
  rw [List.getElem?_map, List.getElem?_eq_getElem h]
  rfl
theorem enc_at {ss : List Sp2} {i : Nat} (h : i < ss.length) : atI (encs ss) (i : Int) = some (.lst [.int ss[i].1, .int ss[i].2]) := by
  rw [at_nat]
  unfold encs
  rw [List.getElem?_map, List.getElem?_eq_getElem h]
  rfl
theorem pairs_snoc (ps : List (Nat × Nat)) (p : Nat × Nat) : pairs (ps ++ [p]) = pairs ps ++ [pairN p] := by
  unfold pairs
  rw [List.map_append]
  rfl
theorem app_pair {r : Sto} {ps : List (Nat × Nat)} {p : Nat × Nat} (hz : ps.length < 1000) : appendD (.ref r.length) [pairN p] (r ++ [.lst (pairs ps)]) = .ok .non (r ++ [.lst (pairs (ps ++ [p]))]) := by
  rw [app_last0 (by unfold pairs; rw [List.length_map]; omega), pairs_snoc]
theorem rng2_nat {i n : Nat} {st : Sto} (h : i ≤ 100000) (h2 : n ≤ 100000) : rng2 (i : Int) (n : Int) st = .ok (.fz (rangeD i (n - i))) st := by
  rw [rng2_ok (by omega) (by omega) (by omega) (by omega)]
  congr 3
  omega
theorem runs_step {ss : List Sp2} (hn : ss.length ≤ 100) {r : Sto} {k first : Nat} (hk : 0 < k) (hk2 : k < ss.length) {sh : Sp2} {acc : List (Nat × Nat)} (ha : acc.length ≤ k) (x5 x6 : Option D) :
    ∃ (acc' : List (Nat × Nat)) (first' : Nat) (sh' : Sp2) (y5 y6 : Option D), acc'.length ≤ k + 1 ∧ acc' ++ runsG first' sh' (k + 1) (ss.drop (k + 1)) = acc ++ runsG first sh k (ss.drop k) ∧
      l1_runs [some (.tup (spans ss)), some (.ref r.length), some (.int first), some (spanD sh), some (.int k), x5, x6] (r ++ [.lst (pairs acc)]) = .nx [some (.tup (spans ss)), some (.ref r.length), some (.int first'), some (spanD sh'), some (.int k), y5, y6] (r ++ [.lst (pairs acc')]) := by
  have hd : ss.drop k = ss[k] :: ss.drop (k + 1) := List.drop_eq_getElem_cons hk2
  rw [hd]
  have e1 : l1_runs [some (.tup (spans ss)), some (.ref r.length), some (.int first), some (spanD sh), some (.int k), x5, x6] (r ++ [.lst (pairs acc)]) =
      l1_runs_2 [some (.tup (spans ss)), some (.ref r.length), some (.int first), some (spanD sh), some (.int k), some (spanD ss[k]), some (overD (over sh ss[k]))] (r ++ [.lst (pairs acc)]) := by
    simp [l1_runs, l1_runs_1, span_at hk2, both_ok]
  rw [e1]
  have hp : ((k : Int) - 1) = ((k - 1 : Nat) : Int) := by omega
  cases ho : over sh ss[k] with
  | none =>
    refine ⟨acc ++ [(first, k - 1)], k, ss[k], some (spanD ss[k]), some .non, by simp; omega, ?_, ?_⟩
    · rw [List.append_assoc]
      conv => rhs; unfold runsG
      rw [ho]
      rfl
    · have ap := app_pair (r := r) (ps := acc) (p := (first, k - 1)) (by omega)
      unfold pairN at ap
      simp [l1_runs_2, overD, hp, ap]
  | some u =>
    refine ⟨acc, first, u, some (spanD ss[k]), some (spanD u), by omega, ?_, ?_⟩
    · conv => rhs; unfold runsG
      rw [ho]
    · have hu : isN false (overD (some u)) .non (r ++ [.lst (pairs acc)]) = .ok (.bl false) (r ++ [.lst (pairs acc)]) := isN_over
      simp [l1_runs_2, hu]
      rfl
theorem runs_y {ss : List Sp2} (h0 : 0 < ss.length) (hn : ss.length ≤ 100) {r : Sto} : y_runs [some (.tup (spans ss)), none, none, none, none, none, none] r = .rt (.ref r.length) (r ++ [.lst (pairs (runsL ss))]) := by
  obtain ⟨s, rest, rfl⟩ := List.exists_cons_of_length_pos h0
  have hh : atI (spans (s :: rest)) 0 = some (spanD s) := span_at (ss := s :: rest) (i := 0) h0
  obtain ⟨e3, s3, hl, acc, first, sh, y4, y5, y6, g0, g1, g2, g3⟩ := loop_inv (ds := rangeD 1 rest.length) (g := gNm 4) (body := l1_runs)
    (fun i env st => ∃ (acc : List (Nat × Nat)) (first : Nat) (sh : Sp2) (y4 y5 y6 : Option D), acc.length ≤ i + 1 ∧ acc ++ runsG first sh (i + 1) ((s :: rest).drop (i + 1)) = runsL (s :: rest) ∧
      env = [some (.tup (spans (s :: rest))), some (.ref r.length), some (.int first), some (spanD sh), y4, y5, y6] ∧ st = r ++ [.lst (pairs acc)])
    (fun i d env st hd ⟨acc, first, sh, y4, y5, y6, q1, q2, q3, q4⟩ => by
      obtain ⟨rfl, hi⟩ := range_get hd
      subst q3 q4
      obtain ⟨acc', first', sh', z5, z6, p1, p2, p3⟩ := runs_step hn (r := r) (k := i + 1) (first := first) (by omega) (by simp; omega) (sh := sh) (acc := acc) q1 y5 y6
      refine ⟨_, rfl, _, _, .inl ?_, acc', first', sh', some (.int ((1 : Int) + i)), z5, z6, p1, p2.trans q2, rfl, rfl⟩
      have z : (1 : Int) + (i : Int) = ((i + 1 : Nat) : Int) := by omega
      rw [z]
      exact p3) rest.length 0 [some (.tup (spans (s :: rest))), some (.ref r.length), some (.int (0 : Nat)), some (spanD s), none, none, none] (r ++ [.lst (pairs [])]) (by simp) ⟨[], 0, s, none, none, none, Nat.zero_le _, rfl, rfl, rfl⟩
  subst g2 g3
  rw [range_len] at g0 g1
  have hl2 : (s :: rest).drop (rest.length + 1) = [] := List.drop_of_length_le (by simp)
  rw [hl2] at g1
  have e2 : y_runs [some (.tup (spans (s :: rest))), none, none, none, none, none, none] r = y_runs_3 [some (.tup (spans (s :: rest))), some (.ref r.length), some (.int (0 : Nat)), some (spanD s), none, none, none] (r ++ [.lst (pairs [])]) := by
    simp [y_runs, y_runs_1, y_runs_2, hh, pairs]
  have hr : ∀ st : Sto, rng2 1 ((rest.length : Int) + 1) st = .ok (.fz (rangeD 1 rest.length)) st := fun st => by
    have := rng2_nat (i := 1) (n := rest.length + 1) (st := st) (by omega) (by simp at hn; omega)
    simpa using this
  have hln : ((spans (s :: rest)).length : Int) = (rest.length : Int) + 1 := by unfold spans; simp
  have ap := app_pair (r := r) (ps := acc) (p := (first, rest.length)) (by simp at hn; omega)
  unfold pairN at ap
  have e3 : y_runs_3 [some (.tup (spans (s :: rest))), some (.ref r.length), some (.int (0 : Nat)), some (spanD s), none, none, none] (r ++ [.lst (pairs [])]) = .rt (.ref r.length) (r ++ [.lst (pairs (runsL (s :: rest)))]) := by
    have g1' : acc ++ [(first, rest.length)] = runsL (s :: rest) := g1
    have h1 : iR2 (eK (.int 1)) (eC lenD (aCons (eVar 0) aNil)) [some (.tup (spans (s :: rest))), some (.ref r.length), some (.int (0 : Nat)), some (spanD s), none, none, none] (r ++ [.lst (pairs [])]) = .ok (.fz (rangeD 1 rest.length)) (r ++ [.lst (pairs [])]) := by
      simp [hln, hr]
    unfold y_runs_3
    rw [ev_sSeq, for_fz h1 (by rw [range_len]; exact hl), seq_nx]
    rw [← g1']
    simp [y_runs_4, y_runs_5, hln, ap]
  rw [e2, e3]
theorem runs_ok {ss : List Sp2} (h0 : 0 < ss.length) (hn : ss.length ≤ 100) {r : Sto} : m_runs [.tup (spans ss)] r = .ok (.lst (pairs (runsL ss))) r := by
  have e1 : m_runs [.tup (spans ss)] r = fnEnd false r (y_runs [some (.tup (spans ss)), none, none, none, none, none, none] r) := rfl
  rw [e1, runs_y h0 hn, end_rt_f]
  exact fin_new (r := r) (ex := [.lst (pairs (runsL ss))]) (j := 0) rfl (pds_pairs _)
theorem runsL_ok {ss : List Sp2} (h0 : 0 < ss.length) (hn : ss.length ≤ 100) {r : Sto} : mL_runs [.tup (spans ss)] r = .ok (.ref r.length) (r ++ [.lst (pairs (runsL ss))]) := by
  have e1 : mL_runs [.tup (spans ss)] r = fnEnd true r (y_runs [some (.tup (spans ss)), none, none, none, none, none, none] r) := rfl
  rw [e1, runs_y h0 hn, end_rt_t]
  exact finL_new (pds_pairs _)
def keyS (s : Sp2) : List Key := [.inl s.1, .inl s.2]
theorem dval_spans (ks : List Sp2) (s : Sp2) : dval (ks.map keyS) (spans ks) (keyS s) = if s ∈ ks then some (spanD s) else none := by
  induction ks with
  | nil => rfl
  | cons k ks ih =>
    show (if keyS k = keyS s then some (spanD k) else dval (ks.map keyS) (spans ks) (keyS s)) = _
    by_cases h : k = s
    · subst h
      rw [if_pos rfl, if_pos List.mem_cons_self]
    · have h2 : keyS k ≠ keyS s := fun e => h (by
        unfold keyS at e
        simp at e
        exact Prod.ext e.1 e.2)
      rw [if_neg h2, ih]
      by_cases h3 : s ∈ ks
      · rw [if_pos h3, if_pos (List.mem_cons_of_mem _ h3)]
      · rw [if_neg h3, if_neg (fun e => by
          rcases List.mem_cons.mp e with e | e
          · exact h e.symm
          · exact h3 e)]
def addK (ks : List Sp2) (s : Sp2) : List Sp2 := if s ∈ ks then ks else ks ++ [s]
theorem keyS_inj {s t : Sp2} (e : keyS s = keyS t) : s = t := by
  unfold keyS at e
  simp at e
  exact Prod.ext e.1 e.2
theorem dput_spans (ks : List Sp2) (s : Sp2) : dkeys (ks.map keyS) (keyS s) = (addK ks s).map keyS ∧ dputs (ks.map keyS) (spans ks) (keyS s) (spanD s) = spans (addK ks s) := by
  induction ks with
  | nil => exact ⟨rfl, rfl⟩
  | cons k ks ih =>
    obtain ⟨ih1, ih2⟩ := ih
    have u1 : dkeys ((k :: ks).map keyS) (keyS s) = if keyS k = keyS s then keyS k :: ks.map keyS else keyS k :: dkeys (ks.map keyS) (keyS s) := rfl
    have u2 : dputs ((k :: ks).map keyS) (spans (k :: ks)) (keyS s) (spanD s) = if keyS k = keyS s then spanD s :: spans ks else spanD k :: dputs (ks.map keyS) (spans ks) (keyS s) (spanD s) := rfl
    rw [u1, u2, ih1, ih2]
    by_cases h : k = s
    · subst h
      have e : addK (k :: ks) k = k :: ks := if_pos List.mem_cons_self
      rw [if_pos rfl, if_pos rfl, e]
      exact ⟨rfl, rfl⟩
    · rw [if_neg fun e => h (keyS_inj e), if_neg fun e => h (keyS_inj e)]
      have e : addK (k :: ks) s = k :: addK ks s := by
        unfold addK
        by_cases h2 : s ∈ ks
        · rw [if_pos h2, if_pos (List.mem_cons_of_mem _ h2)]
        · rw [if_neg h2, if_neg fun e => by
            rcases List.mem_cons.mp e with e | e
            · exact h e.symm
            · exact h2 e]
          rfl
      rw [e]
      exact ⟨rfl, rfl⟩
theorem addK_nodup {ks : List Sp2} (h : ks.Nodup) (s : Sp2) : (addK ks s).Nodup := by
  unfold addK
  by_cases h2 : s ∈ ks
  · rw [if_pos h2]
    exact h
  · rw [if_neg h2, List.nodup_append]
    refine ⟨h, by simp, fun a ha c hc => ?_⟩
    rw [List.mem_singleton.mp hc]
    exact fun e => h2 (by rw [← e]; exact ha)
theorem addK_mem {ks : List Sp2} {s : Sp2} : s ∈ addK ks s := by
  unfold addK
  by_cases h2 : s ∈ ks
  · rw [if_pos h2]
    exact h2
  · rw [if_neg h2]
    simp
theorem addK_len {ks : List Sp2} {s : Sp2} : (addK ks s).length ≤ ks.length + 1 := by
  unfold addK
  split
  · omega
  · simp
theorem keys_nodup {ks : List Sp2} (h : ks.Nodup) : (ks.map keyS).Nodup := by
  rw [List.Nodup, List.pairwise_map]
  exact h.imp fun hne e => hne (keyS_inj e)
theorem spans_snoc (ss : List Sp2) (s : Sp2) : spans (ss ++ [s]) = spans ss ++ [spanD s] := by
  unfold spans
  rw [List.map_append]
  rfl
theorem made_step {b : SO} {r : Sto} {l : List D} {sh : Bool} {ks dn : List Sp2} {s : Sp2} (hs : s.1 ≤ s.2) (nd : ks.Nodup) (h1 : ks.length ≤ 1000) (h2 : dn.length ≤ 1000) (x : Option D) :
    ∃ ks' : List Sp2, ks'.Nodup ∧ ks'.length ≤ ks.length + 1 ∧ l1__law_made [some (.ref 0), some (.lst l), some (.bl sh), some (.ref (r.length + 1)), some (.ref (r.length + 2)), some (enc s)] (b :: (r ++ [.dT (ks.map keyS) (spans ks), .lst (spans dn)])) =
      .nx [some (.ref 0), some (.lst l), some (.bl sh), some (.ref (r.length + 1)), some (.ref (r.length + 2)), some (enc s)] (b :: (r ++ [.dT (ks'.map keyS) (spans ks'), .lst (spans (dn ++ [s]))])) := by
  have hl : ∀ ks : List Sp2, (spans ks).length = ks.length := fun ks => by unfold spans; rw [List.length_map]
  have g1 : ∀ (ks dn : List Sp2), dgetO (.ref (r.length + 1)) (.tup [.int s.1, .int s.2]) (b :: (r ++ [.dT (ks.map keyS) (spans ks), .lst (spans dn)])) = some (if s ∈ ks then some (spanD s) else none) := fun ks dn => by
    rw [dget_T (ks := ks.map keyS) (xs := spans ks) (k := keyS s) (by simp) rfl, dval_spans]
  have g2 : dputO (.ref (r.length + 1)) (.tup [.int s.1, .int s.2]) (spanD s) (b :: (r ++ [.dT (ks.map keyS) (spans ks), .lst (spans dn)])) = some (b :: (r ++ [.dT ((addK ks s).map keyS) (spans (addK ks s)), .lst (spans dn)])) := by
    rw [dput_T (ks := ks.map keyS) (xs := spans ks) (k := keyS s) (by simp) rfl (by rw [hl]; omega) (keys_nodup nd), (dput_spans ks s).1, (dput_spans ks s).2]
    simp
  have ap : ∀ (ks dn : List Sp2), dn.length ≤ 1000 → appendD (.ref (r.length + 2)) [spanD s] (b :: (r ++ [.dT (ks.map keyS) (spans ks), .lst (spans dn)])) = .ok .non (b :: (r ++ [.dT (ks.map keyS) (spans ks), .lst (spans (dn ++ [s]))])) := fun ks dn h => by
    rw [app_ref (xs := spans dn) (by simp) (by rw [sizeLine_eq, hl]; omega), spans_snoc]
    simp
  have mk : ∀ st : Sto, mkI "Span" m_Spanuu_inituu false [.int s.1, .int s.2] st = .ok (spanD s) st := fun st => make_ok hs
  have tail : ∀ (ks : List Sp2), s ∈ ks → l1__law_made_1 [some (.ref 0), some (.lst l), some (.bl sh), some (.ref (r.length + 1)), some (.ref (r.length + 2)), some (enc s)] (b :: (r ++ [.dT (ks.map keyS) (spans ks), .lst (spans dn)])) =
      .nx [some (.ref 0), some (.lst l), some (.bl sh), some (.ref (r.length + 1)), some (.ref (r.length + 2)), some (enc s)] (b :: (r ++ [.dT (ks.map keyS) (spans ks), .lst (spans (dn ++ [s]))])) := fun ks hk => by
    have g3 : dgetD (.ref (r.length + 1)) (.tup [.int s.1, .int s.2]) (b :: (r ++ [.dT (ks.map keyS) (spans ks), .lst (spans dn)])) = .ok (spanD s) (b :: (r ++ [.dT (ks.map keyS) (spans ks), .lst (spans dn)])) := by
      unfold dgetD
      rw [g1, if_pos hk]
    simp [l1__law_made_1, enc, g3, ap ks dn h2]
  by_cases hc : sh = false ∨ s ∉ ks
  · refine ⟨addK ks s, addK_nodup nd s, addK_len, ?_⟩
    have t := tail (addK ks s) addK_mem
    have g4 : ∀ st, dinD true (.tup [.int s.1, .int s.2]) (.ref (r.length + 1)) (b :: (r ++ [.dT (ks.map keyS) (spans ks), .lst (spans dn)])) = .ok (.bl (decide (s ∉ ks))) (b :: (r ++ [.dT (ks.map keyS) (spans ks), .lst (spans dn)])) := fun _ : Unit => by
      unfold dinD
      rw [g1]
      by_cases hk : s ∈ ks <;> simp [hk]
    have g5 := g4 ()
    rw [← t]
    cases sh with
    | false => simp [l1__law_made, enc, mk, g2]
    | true =>
      have hk : s ∉ ks := by simpa using hc
      simp [l1__law_made, enc, g5, hk, mk, g2]
  · have h3 : sh = true ∧ s ∈ ks := by
      constructor
      · cases sh
        · exact absurd (.inl rfl) hc
        · rfl
      · exact Classical.not_not.mp fun e => hc (.inr e)
    obtain ⟨rfl, hk⟩ := h3
    refine ⟨ks, nd, by omega, ?_⟩
    have g5 : dinD true (.tup [.int s.1, .int s.2]) (.ref (r.length + 1)) (b :: (r ++ [.dT (ks.map keyS) (spans ks), .lst (spans dn)])) = .ok (.bl false) (b :: (r ++ [.dT (ks.map keyS) (spans ks), .lst (spans dn)])) := by
      unfold dinD
      rw [g1, if_pos hk]
      rfl
    rw [← tail ks hk]
    simp [l1__law_made, enc, g5]
theorem made_ok {b : SO} {k : Nat} (hb : BagOk b k) (hk : k < 2 ^ 50) {ss : List Sp2} (hn : ss.length ≤ 100) (hs : ∀ s ∈ ss, s.1 ≤ s.2) (r : Sto) : ∃ b' : SO, BagOk b' (k + 1) ∧ m__law_made [.ref 0, .lst (encs ss)] (b :: r) = .ok (.tup (spans ss)) (b' :: r) := by
  obtain ⟨d, b1, hb1, l1, u1, e1⟩ := draw_ok hb (by omega) (n := 2) (by decide) (by decide)
  refine ⟨b1, hb1, ?_⟩
  have a1 : m__law_made [.ref 0, .lst (encs ss)] (b :: r) = fnEnd false (b :: r) (y__law_made [some (.ref 0), some (.lst (encs ss)), none, none, none, none] (b :: r)) := rfl
  have a2 : y__law_made [some (.ref 0), some (.lst (encs ss)), none, none, none, none] (b :: r) = y__law_made_3 [some (.ref 0), some (.lst (encs ss)), some (.bl (decide (d = 0))), some (.ref (r.length + 1)), some (.ref (r.length + 2)), none] (b1 :: (r ++ [.dT [] [], .lst []])) := by
    simp [y__law_made, y__law_made_1, y__law_made_2, e1]
  obtain ⟨e3, s3, hl, ks, dn, x, g0, g1, g2, g3, g4⟩ := loop_inv (ds := encs ss) (g := gNm 5) (body := l1__law_made)
    (fun i env st => ∃ (ks dn : List Sp2) (x : Option D), ks.Nodup ∧ ks.length ≤ i ∧ dn = ss.take i ∧
      env = [some (.ref 0), some (.lst (encs ss)), some (.bl (decide (d = 0))), some (.ref (r.length + 1)), some (.ref (r.length + 2)), x] ∧ st = b1 :: (r ++ [.dT (ks.map keyS) (spans ks), .lst (spans dn)]))
    (fun i dd env st hd ⟨ks, dn, x, q0, q1, q2, q3, q4⟩ => by
      subst q3 q4
      unfold encs at hd
      rw [List.getElem?_map] at hd
      obtain ⟨s, hsi, rfl⟩ := Option.map_eq_some_iff.mp hd
      obtain ⟨hi, es⟩ := List.getElem?_eq_some_iff.mp hsi
      have hdn : dn.length ≤ 1000 := by rw [q2, List.length_take]; omega
      obtain ⟨ks', p1, p2, p3⟩ := made_step (b := b1) (r := r) (l := encs ss) (sh := decide (d = 0)) (ks := ks) (dn := dn) (s := s) (hs s (by rw [← es]; exact List.getElem_mem hi)) q0 (by omega) hdn x
      refine ⟨_, rfl, _, _, .inl p3, ks', dn ++ [s], some (enc s), p1, by omega, ?_, rfl, rfl⟩
      rw [q2, List.take_add_one, hsi]
      rfl) (encs ss).length 0 [some (.ref 0), some (.lst (encs ss)), some (.bl (decide (d = 0))), some (.ref (r.length + 1)), some (.ref (r.length + 2)), none] (b1 :: (r ++ [.dT [] [], .lst []])) (by simp) ⟨[], [], none, List.nodup_nil, Nat.le_refl _, rfl, rfl, rfl⟩
  subst g3 g4
  have hdn : dn = ss := by
    rw [g2]
    exact List.take_of_length_le (by unfold encs; rw [List.length_map]; exact Nat.le_refl _)
  subst hdn
  have h1 : iVal (eVar 1) [some (.ref 0), some (.lst (encs dn)), some (.bl (decide (d = 0))), some (.ref (r.length + 1)), some (.ref (r.length + 2)), none] (b1 :: (r ++ [.dT [] [], .lst []])) = .ok (.fz (encs dn)) (b1 :: (r ++ [.dT [] [], .lst []])) := by simp
  have a3 : y__law_made_3 [some (.ref 0), some (.lst (encs dn)), some (.bl (decide (d = 0))), some (.ref (r.length + 1)), some (.ref (r.length + 2)), none] (b1 :: (r ++ [.dT [] [], .lst []])) = .rt (.tup (spans dn)) (b1 :: (r ++ [.dT (ks.map keyS) (spans ks), .lst (spans dn)])) := by
    unfold y__law_made_3
    rw [ev_sSeq, for_fz h1 hl, seq_nx]
    simp [y__law_made_4]
  rw [a1, a2, a3, end_rt_f]
  exact fin_bag hb1.pd (pds_spans dn)
def gI (xs : List Int) (i : Nat) : Int := xs.getD i 0
def bend (xs : List Int) (k : Nat) : Bool := decide (gI xs k ≠ gI xs (k + 1))
def bendsN (xs : List Int) : Nat := ((List.range (xs.length - 1)).filter (bend xs)).length
theorem int_at {xs : List Int} {i : Nat} (h : i < xs.length) : atI (xs.map D.int) (i : Int) = some (.int (gI xs i)) := by
  unfold gI
  rw [at_nat, List.getElem?_map, List.getElem?_eq_getElem h, List.getD_eq_getElem?_getD, List.getElem?_eq_getElem h]
  rfl
theorem bends_ok {xs : List Int} (h0 : 0 < xs.length) (hn : xs.length ≤ 100) {st : Sto} : m_bends [.tup (xs.map .int)] st = .ok (.int (bendsN xs : Nat)) st := by
  have e1 : m_bends [.tup (xs.map .int)] st = fnEnd false st (y_bends [some (.tup (xs.map .int)), none] st) := rfl
  have hc := comp_filter (g := gNm 1) (env := [some (.tup (xs.map .int)), none]) (st := st) (t := toB (e2 (eqD true) (e2 ixD (eVar 0) (eVar 1)) (e2 ixD (eVar 0) (e2 subI (eVar 1) (eK (.int 1)))))) (me := eVar 1) (fun d => d)
    (fun d => match d with
      | .int j => bend xs (j - 1).toNat
      | _ => false) (all := rangeD 1 (xs.length - 1)) (fun d hd => by
      obtain ⟨i, hi⟩ := List.getElem?_of_mem hd
      obtain ⟨rfl, hi2⟩ := range_get hi
      refine ⟨_, rfl, ?_, fun _ => by simp⟩
      have a1 := int_at (xs := xs) (i := i + 1) (by omega)
      have a2 := int_at (xs := xs) (i := i) (by omega)
      have z1 : (1 : Int) + (i : Int) = ((i + 1 : Nat) : Int) := by omega
      have z2 : ((i + 1 : Nat) : Int) - 1 = (i : Int) := by omega
      have z3 : (((i + 1 : Nat) : Int) - 1).toNat = i := by omega
      rw [z1]
      simp only [ev_toB, ev_e2, ev_eVar, ev_eK, List.getElem?_cons_succ, List.getElem?_cons_zero, Res.bind_ok, ND.ix_tup, a1, op_subI, z2, a2, eq_int, Int.toNat_natCast, List.set_cons_succ, List.set_cons_zero, if_pos]
      unfold bend
      congr 1
      by_cases h : gI xs (i + 1) = gI xs i
      · rw [decide_eq_true h, decide_eq_false (p := gI xs i ≠ gI xs (i + 1)) (fun e => e h.symm)]
        rfl
      · rw [decide_eq_false h, decide_eq_true (p := gI xs i ≠ gI xs (i + 1)) (fun e => h e.symm)]
        rfl) (by rw [range_len, sizeLine_eq]; omega)
  have hr : rng2 1 (xs.length : Int) st = .ok (.fz (rangeD 1 (xs.length - 1))) st := by
    have := rng2_nat (i := 1) (n := xs.length) (st := st) (by omega) (by omega)
    simpa using this
  have hl : ((List.filter (fun d => match d with
      | D.int j => bend xs (j - 1).toNat
      | _ => false) (rangeD 1 (xs.length - 1))).map (fun d => d)).length = bendsN xs := by
    unfold bendsN rangeD
    rw [List.length_map, List.filter_map, List.length_map]
    congr 2
    funext i
    show bend xs (1 + (i : Int) - 1).toNat = bend xs i
    congr 1
    omega
  rw [range_len] at hc
  have e2 : y_bends [some (.tup (xs.map .int)), none] st = .rt (.int (bendsN xs : Nat)) st := by
    rw [← hl]
    simp [y_bends, hr, hc]
  rw [e1, e2, end_rt_f]
  exact fin_none0 rfl
theorem lbends_ok {xs : List Int} (h0 : 0 < xs.length) (hn : xs.length ≤ 100) {st : Sto} : m__law_bends [.lst (xs.map .int)] st = .ok (.int (bendsN xs : Nat)) st := by
  have e1 : m__law_bends [.lst (xs.map .int)] st = fnEnd false st (y__law_bends [some (.lst (xs.map .int)), none] st) := rfl
  have hc := comp_filter (g := gNm 1) (env := [some (.lst (xs.map .int)), none]) (st := st) (t := toB (e2 (eqD true) (e2 ixD (eVar 0) (eVar 1)) (e2 ixD (eVar 0) (e2 addX (eVar 1) (eK (.int 1)))))) (me := eVar 1) (fun d => d)
    (fun d => match d with
      | .int j => bend xs j.toNat
      | _ => false) (all := rangeD 0 (xs.length - 1)) (fun d hd => by
      obtain ⟨i, hi⟩ := List.getElem?_of_mem hd
      obtain ⟨rfl, hi2⟩ := range_get hi
      refine ⟨_, rfl, ?_, fun _ => by simp⟩
      have a1 := int_at (xs := xs) (i := i + 1) (by omega)
      have a2 := int_at (xs := xs) (i := i) (by omega)
      have z1 : (0 : Int) + (i : Int) = (i : Int) := by omega
      have z2 : (i : Int) + 1 = ((i + 1 : Nat) : Int) := by omega
      rw [z1]
      simp only [ev_toB, ev_e2, ev_eVar, ev_eK, List.getElem?_cons_succ, List.getElem?_cons_zero, Res.bind_ok, ix_lst, a2, op_addX_i, op_addI, z2, a1, eq_int, Int.toNat_natCast, List.set_cons_succ, List.set_cons_zero, if_pos]
      unfold bend
      congr 1
      by_cases h : gI xs i = gI xs (i + 1)
      · rw [decide_eq_true h, decide_eq_false (fun e => e h)]
        rfl
      · rw [decide_eq_false h, decide_eq_true h]
        rfl) (by rw [range_len, sizeLine_eq]; omega)
  have hr : rng1 ((xs.length : Int) - 1) st = .ok (.fz (rangeD 0 (xs.length - 1))) st := by
    have := rng1_nat (n := xs.length - 1) (st := st) (by omega)
    have z : ((xs.length - 1 : Nat) : Int) = (xs.length : Int) - 1 := by omega
    rw [z] at this
    exact this
  have hl : ((List.filter (fun d => match d with
      | D.int j => bend xs j.toNat
      | _ => false) (rangeD 0 (xs.length - 1))).map (fun d => d)).length = bendsN xs := by
    unfold bendsN rangeD
    rw [List.length_map, List.filter_map, List.length_map]
    congr 2
    funext i
    show bend xs (0 + (i : Int)).toNat = bend xs i
    congr 1
    omega
  rw [range_len] at hc
  have e2 : y__law_bends [some (.lst (xs.map .int)), none] st = .rt (.int (bendsN xs : Nat)) st := by
    rw [← hl]
    simp [y__law_bends, hr, hc]
  rw [e1, e2, end_rt_f]
  exact fin_none0 rfl
def lieAt (ss : List Sp2) (xs : List Int) (i : Nat) : Bool := decide ((ss.getD i (0, 0)).1 ≤ gI xs i ∧ gI xs i ≤ (ss.getD i (0, 0)).2)
def lies (ss : List Sp2) (xs : List Int) : Bool := (List.range ss.length).all (lieAt ss xs)
def gS (ss : List Sp2) (i : Nat) : Sp2 := ss.getD i (0, 0)
theorem whole_ok {x : Int} {st : Sto} : m__law_whole [.int x] st = .ok (.bl true) st := by
  have e1 : m__law_whole [.int x] st = fnEnd false st (y__law_whole [some (.int x)] st) := rfl
  have i1 : isiD csL itL [.int x, .ty "int"] st = .ok (.bl true) st := rfl
  have i2 : isiD csL itL [.int x, .ty "bool"] st = .ok (.bl false) st := rfl
  have e2 : y__law_whole [some (.int x)] st = .rt (.bl true) st := by simp [y__law_whole, i1, i2]
  rw [e1, e2, end_rt_f]
  exact fin_none0 rfl
theorem over_none (s t : Sp2) : (over s t).isNone = decide (min s.2 t.2 < max s.1 t.1) := by
  unfold over
  by_cases h : min s.2 t.2 < max s.1 t.1
  · rw [if_pos h, decide_eq_true h]
    rfl
  · rw [if_neg h, decide_eq_false h]
    rfl
structure Shared (ss : List Sp2) (f k : Nat) (sh : Sp2) : Prop where
  lt : f < k
  all : ∀ j, f ≤ j → j < k → (gS ss j).1 ≤ sh.1 ∧ sh.2 ≤ (gS ss j).2
  lo : ∃ j, f ≤ j ∧ j < k ∧ (gS ss j).1 = sh.1
  hi : ∃ j, f ≤ j ∧ j < k ∧ (gS ss j).2 = sh.2
  le : sh.1 ≤ sh.2
def Segs (ss : List Sp2) : Nat → List (Nat × Nat) → Prop
  | i, [] => i = ss.length
  | i, p :: rs => p.1 = i ∧ i ≤ p.2 ∧ p.2 < ss.length ∧ (∃ sh, Shared ss i (p.2 + 1) sh ∧ (p.2 + 1 < ss.length → over sh (gS ss (p.2 + 1)) = none)) ∧ Segs ss (p.2 + 1) rs
theorem gS_of {ss rest : List Sp2} {k : Nat} {s : Sp2} (h : ss.drop k = s :: rest) : gS ss k = s ∧ k < ss.length ∧ ss.drop (k + 1) = rest := by
  have hk : k < ss.length := by
    have := congrArg List.length h
    rw [List.length_drop] at this
    simp at this
    omega
  have e := List.drop_eq_getElem_cons hk
  rw [h] at e
  injection e with e1 e2
  refine ⟨?_, hk, e2.symm⟩
  unfold gS
  rw [List.getD_eq_getElem?_getD, List.getElem?_eq_getElem hk, e1]
  rfl
theorem segs_of {ss : List Sp2} (hs : ∀ s ∈ ss, s.1 ≤ s.2) : ∀ (rest : List Sp2) (f k : Nat) (sh : Sp2), ss.drop k = rest → k ≤ ss.length → Shared ss f k sh → Segs ss f (runsG f sh k rest)
  | [], f, k, sh, h, hk, q => by
    have e : k = ss.length := by
      have := congrArg List.length h
      rw [List.length_drop] at this
      simp at this
      omega
    have lt := q.lt
    refine ⟨rfl, by show f ≤ k - 1; omega, by show k - 1 < ss.length; omega, ⟨sh, ?_, fun h2 => ?_⟩, ?_⟩
    · show Shared ss f (k - 1 + 1) sh
      rw [show k - 1 + 1 = k by omega]
      exact q
    · have h3 : k - 1 + 1 < ss.length := h2
      omega
    · show k - 1 + 1 = ss.length
      omega
  | s :: rest, f, k, sh, h, hk, q => by
    obtain ⟨g1, g2, g3⟩ := gS_of h
    have lt := q.lt
    unfold runsG
    cases ho : over sh s with
    | none =>
      refine ⟨rfl, by show f ≤ k - 1; omega, by show k - 1 < ss.length; omega, ⟨sh, ?_, fun h2 => ?_⟩, ?_⟩
      · show Shared ss f (k - 1 + 1) sh
        rw [show k - 1 + 1 = k by omega]
        exact q
      · show over sh (gS ss (k - 1 + 1)) = none
        rw [show k - 1 + 1 = k by omega, g1]
        exact ho
      · show Segs ss (k - 1 + 1) _
        rw [show k - 1 + 1 = k by omega]
        have hm : s ∈ ss := List.mem_of_mem_drop (i := k) (by rw [h]; exact List.mem_cons_self)
        have one : ∀ j, k ≤ j → j < k + 1 → gS ss j = s := fun j h1 h2 => by rw [show j = k by omega, g1]
        exact segs_of hs rest k (k + 1) s g3 (by omega) ⟨by omega, fun j h1 h2 => by rw [one j h1 h2]; omega, ⟨k, by omega, by omega, by rw [g1]⟩, ⟨k, by omega, by omega, by rw [g1]⟩, hs s hm⟩
    | some u =>
      have hu : u = (max sh.1 s.1, min sh.2 s.2) ∧ max sh.1 s.1 ≤ min sh.2 s.2 := by
        unfold over at ho
        split at ho
        · cases ho
        · cases ho
          exact ⟨rfl, by omega⟩
      obtain ⟨rfl, hu⟩ := hu
      refine segs_of hs rest f (k + 1) _ g3 (by omega) ⟨by omega, fun j h1 h2 => ?_, ?_, ?_, hu⟩
      · show (gS ss j).1 ≤ max sh.1 s.1 ∧ min sh.2 s.2 ≤ (gS ss j).2
        by_cases e : j = k
        · rw [e, g1]
          omega
        · have := q.all j h1 (by omega)
          omega
      · show ∃ j, f ≤ j ∧ j < k + 1 ∧ (gS ss j).1 = max sh.1 s.1
        by_cases e : sh.1 ≤ s.1
        · exact ⟨k, by omega, by omega, by rw [g1]; omega⟩
        · obtain ⟨j, j1, j2, j3⟩ := q.lo
          exact ⟨j, j1, by omega, by omega⟩
      · show ∃ j, f ≤ j ∧ j < k + 1 ∧ (gS ss j).2 = min sh.2 s.2
        by_cases e : s.2 ≤ sh.2
        · exact ⟨k, by omega, by omega, by rw [g1]; omega⟩
        · obtain ⟨j, j1, j2, j3⟩ := q.hi
          exact ⟨j, j1, by omega, by omega⟩
theorem segs_runs {ss : List Sp2} (h0 : 0 < ss.length) (hs : ∀ s ∈ ss, s.1 ≤ s.2) : Segs ss 0 (runsL ss) := by
  obtain ⟨s, rest, rfl⟩ := List.exists_cons_of_length_pos h0
  have one : ∀ j, 0 ≤ j → j < 1 → gS (s :: rest) j = s := fun j h1 h2 => by rw [show j = 0 by omega]; rfl
  exact segs_of hs rest 0 1 s rfl (by simp) ⟨by omega, fun j h1 h2 => by rw [one j h1 h2]; omega, ⟨0, by omega, by omega, rfl⟩, ⟨0, by omega, by omega, rfl⟩, hs s List.mem_cons_self⟩
theorem over_isNone {s t : Sp2} : (over s t).isNone = true ↔ min s.2 t.2 < max s.1 t.1 := by
  rw [over_none, decide_eq_true_eq]
theorem blocker {ss : List Sp2} {f l : Nat} {sh : Sp2} (q : Shared ss f (l + 1) sh) (ho : over sh (gS ss (l + 1)) = none) (hv : (gS ss (l + 1)).1 ≤ (gS ss (l + 1)).2) : ∃ j, f ≤ j ∧ j < f + (l + 1 - f) ∧ (over (gS ss j) (gS ss (l + 1))).isNone = true := by
  have hn : (over sh (gS ss (l + 1))).isNone = true := by rw [ho]; rfl
  rw [over_isNone] at hn
  have hle := q.le
  have lt := q.lt
  by_cases h : (gS ss (l + 1)).2 < sh.1
  · obtain ⟨j, j1, j2, j3⟩ := q.lo
    exact ⟨j, j1, by omega, over_isNone.mpr (by omega)⟩
  · obtain ⟨j, j1, j2, j3⟩ := q.hi
    exact ⟨j, j1, by omega, over_isNone.mpr (by omega)⟩
abbrev Vd (ss : List Sp2) : Prop := ∀ s ∈ ss, s.1 ≤ s.2
theorem Vd.at {ss : List Sp2} (h : Vd ss) {j : Nat} (hj : j < ss.length) : (gS ss j).1 ≤ (gS ss j).2 := by
  unfold gS
  rw [List.getD_eq_getElem?_getD, List.getElem?_eq_getElem hj]
  exact h _ (List.getElem_mem hj)
def clampS (sh : Sp2) : Option Int → Int
  | none => sh.1
  | some p => max sh.1 (min sh.2 p)
def Stops (ss : List Sp2) : Nat → Option Int → List (Nat × Nat) → List Int → Prop
  | _, _, [], xs => xs = []
  | i, prev, p :: rs, xs => ∃ sh ys, Shared ss i (p.2 + 1) sh ∧ (p.2 + 1 < ss.length → over sh (gS ss (p.2 + 1)) = none) ∧ xs = List.replicate (p.2 + 1 - i) (clampS sh prev) ++ ys ∧ Stops ss (p.2 + 1) (some (clampS sh prev)) rs ys
theorem clamp_in {sh : Sp2} (h : sh.1 ≤ sh.2) (prev : Option Int) : sh.1 ≤ clampS sh prev ∧ clampS sh prev ≤ sh.2 := by
  cases prev with
  | none => exact ⟨Int.le_refl _, h⟩
  | some p =>
    show sh.1 ≤ max sh.1 (min sh.2 p) ∧ max sh.1 (min sh.2 p) ≤ sh.2
    omega
theorem stops_len {ss : List Sp2} : ∀ (rs : List (Nat × Nat)) (i : Nat) (prev : Option Int) (xs : List Int), Segs ss i rs → Stops ss i prev rs xs → xs.length + i = ss.length
  | [], i, prev, xs, h, e => by
    have h1 : i = ss.length := h
    have e1 : xs = [] := e
    rw [e1, h1]
    exact Nat.zero_add _
  | p :: rs, i, prev, xs, ⟨h1, h2, h3, _, h4⟩, ⟨sh, ys, q, _, e, st⟩ => by
    have ih := stops_len rs (p.2 + 1) _ ys h4 st
    rw [e, List.length_append, List.length_replicate]
    omega
theorem gI_app {xs ys : List Int} {j : Nat} : gI (xs ++ ys) j = if j < xs.length then gI xs j else gI ys (j - xs.length) := by
  unfold gI
  rw [List.getD_eq_getElem?_getD, List.getD_eq_getElem?_getD, List.getD_eq_getElem?_getD]
  by_cases h : j < xs.length
  · rw [if_pos h, List.getElem?_append_left h]
  · rw [if_neg h, List.getElem?_append_right (by omega)]
theorem gI_rep {n j : Nat} {a : Int} (h : j < n) : gI (List.replicate n a) j = a := by
  unfold gI
  rw [List.getD_eq_getElem?_getD, List.getElem?_replicate, if_pos h]
  rfl
theorem stops_lie {ss : List Sp2} : ∀ (rs : List (Nat × Nat)) (i : Nat) (prev : Option Int) (xs : List Int), Segs ss i rs → Stops ss i prev rs xs → ∀ j, i + j < ss.length → (gS ss (i + j)).1 ≤ gI xs j ∧ gI xs j ≤ (gS ss (i + j)).2
  | [], i, prev, xs, h, e, j, hj => by
    have h1 : i = ss.length := h
    omega
  | p :: rs, i, prev, xs, ⟨h1, h2, h3, _, h4⟩, ⟨sh, ys, q, _, e, st⟩, j, hj => by
    have ih := stops_lie rs (p.2 + 1) _ ys h4 st
    rw [e, gI_app, List.length_replicate]
    by_cases h : j < p.2 + 1 - i
    · rw [if_pos h, gI_rep h]
      have a := q.all (i + j) (by omega) (by omega)
      have b := clamp_in q.le prev
      omega
    · rw [if_neg h]
      have := ih (j - (p.2 + 1 - i)) (by omega)
      rw [show p.2 + 1 + (j - (p.2 + 1 - i)) = i + j by omega] at this
      exact this
theorem lies_of {ss : List Sp2} {rs : List (Nat × Nat)} {xs : List Int} (h : Segs ss 0 rs) (h2 : Stops ss 0 none rs xs) : lies ss xs = true := by
  unfold lies
  refine List.all_eq_true.mpr fun j hj => ?_
  have := stops_lie rs 0 none xs h h2 j (by rw [Nat.zero_add]; exact List.mem_range.mp hj)
  rw [Nat.zero_add] at this
  exact decide_eq_true this
def bendsR : List Int → Nat
  | a :: b :: t => (if a ≠ b then 1 else 0) + bendsR (b :: t)
  | _ => 0
theorem bendsN_R : ∀ xs : List Int, bendsN xs = bendsR xs
  | [] => rfl
  | [a] => rfl
  | a :: b :: t => by
    have ih := bendsN_R (b :: t)
    unfold bendsR
    rw [← ih]
    unfold bendsN
    show ((List.range (t.length + 1)).filter (bend (a :: b :: t))).length = _ + ((List.range t.length).filter (bend (b :: t))).length
    rw [List.range_succ_eq_map, List.filter_cons, List.filter_map]
    have e : (bend (a :: b :: t) ∘ Nat.succ) = bend (b :: t) := by
      funext i
      rfl
    rw [e]
    by_cases h : a = b
    · have e2 : bend (a :: b :: t) 0 = false := decide_eq_false (fun h2 => h2 h)
      rw [e2, if_neg Bool.false_ne_true, List.length_map, if_neg (fun h2 => h2 h), Nat.zero_add]
    · have e2 : bend (a :: b :: t) 0 = true := decide_eq_true (p := gI (a :: b :: t) 0 ≠ gI (a :: b :: t) 1) h
      rw [e2, if_pos rfl, if_pos h, List.length_cons, List.length_map, Nat.add_comm]
theorem bendsR_rep : ∀ (n : Nat) (a : Int), bendsR (List.replicate (n + 1) a) = 0
  | 0, a => rfl
  | n + 1, a => by
    show (if a ≠ a then 1 else 0) + bendsR (List.replicate (n + 1) a) = 0
    rw [if_neg (fun h => h rfl), bendsR_rep n a]
theorem bendsR_app : ∀ (n : Nat) (a b : Int) (t : List Int), bendsR (List.replicate (n + 1) a ++ (b :: t)) = (if a ≠ b then 1 else 0) + bendsR (b :: t)
  | 0, a, b, t => rfl
  | n + 1, a, b, t => by
    show (if a ≠ a then 1 else 0) + bendsR (List.replicate (n + 1) a ++ (b :: t)) = _
    rw [if_neg (fun h => h rfl), bendsR_app n a b t, Nat.zero_add]
theorem stops_bend {ss : List Sp2} : ∀ (rs : List (Nat × Nat)) (p : Nat × Nat) (i : Nat) (prev : Option Int) (xs : List Int), Segs ss i (p :: rs) → Stops ss i prev (p :: rs) xs → bendsR xs = rs.length
  | [], p, i, prev, xs, ⟨h1, h2, h3, _, h4⟩, ⟨sh, ys, q, _, e, st⟩ => by
    have e2 : ys = [] := st
    rw [e, e2, List.append_nil, show p.2 + 1 - i = p.2 - i + 1 by omega, bendsR_rep]
    rfl
  | p2 :: rs, p, i, prev, xs, ⟨h1, h2, h3, _, h4⟩, ⟨sh, ys, q, ho, e, st⟩ => by
    have ih := stops_bend rs p2 (p.2 + 1) _ ys h4 st
    obtain ⟨g1, g2, g3, _⟩ := h4
    obtain ⟨sh2, zs, q2, _, e2, _⟩ := st
    have hn : (over sh (gS ss (p.2 + 1))).isNone = true := by rw [ho (by omega)]; rfl
    rw [over_isNone] at hn
    have a1 := q2.all (p.2 + 1) (by omega) (by omega)
    have a2 := clamp_in q.le prev
    have a3 := clamp_in q2.le (some (clampS sh prev))
    have ne : clampS sh prev ≠ clampS sh2 (some (clampS sh prev)) := by omega
    have e3 : ys = clampS sh2 (some (clampS sh prev)) :: (List.replicate (p2.2 - (p.2 + 1)) (clampS sh2 (some (clampS sh prev))) ++ zs) := by
      rw [e2, show p2.2 + 1 - (p.2 + 1) = (p2.2 - (p.2 + 1)) + 1 by omega, List.replicate_succ]
      rfl
    rw [e, show p.2 + 1 - i = p.2 - i + 1 by omega, e3, bendsR_app, if_pos ne, ← e3, ih]
    show 1 + rs.length = rs.length + 1
    omega
theorem seg_mem {ss : List Sp2} : ∀ (rs : List (Nat × Nat)) (i : Nat), Segs ss i rs → ∀ p ∈ rs, p.1 ≤ p.2 ∧ p.2 < ss.length ∧ ∃ sh, Shared ss p.1 (p.2 + 1) sh ∧ (p.2 + 1 < ss.length → over sh (gS ss (p.2 + 1)) = none)
  | [], _, _, p, h => absurd h List.not_mem_nil
  | q :: rs, i, ⟨h1, h2, h3, ⟨sh, a, b⟩, h4⟩, p, h => by
    rcases List.mem_cons.mp h with e | h
    · subst e
      exact ⟨by omega, h3, sh, by rw [h1]; exact a, b⟩
    · exact seg_mem rs (q.2 + 1) h4 p h
def slS (ss : List Sp2) (a c : Nat) : List Sp2 := (ss.drop a).take (c - a)
theorem mem_slS {ss : List Sp2} {a c : Nat} (hc : c ≤ ss.length) {s : Sp2} : s ∈ slS ss a c ↔ ∃ j, a ≤ j ∧ j < c ∧ gS ss j = s := by
  unfold slS
  have get : ∀ j, j < ss.length → ss[j]? = some (gS ss j) := fun j hj => by
    unfold gS
    rw [List.getD_eq_getElem?_getD, List.getElem?_eq_getElem hj]
    rfl
  constructor
  · intro h
    obtain ⟨i, hi⟩ := List.getElem?_of_mem h
    rw [List.getElem?_take] at hi
    split at hi
    · rename_i hlt
      rw [List.getElem?_drop] at hi
      have hl : a + i < ss.length := (List.getElem?_eq_some_iff.mp hi).1
      rw [get _ hl] at hi
      exact ⟨a + i, by omega, by omega, Option.some.inj hi⟩
    · cases hi
  · rintro ⟨j, h1, h2, rfl⟩
    refine List.mem_of_getElem? (i := j - a) ?_
    rw [List.getElem?_take, if_pos (by omega), List.getElem?_drop, show a + (j - a) = j by omega]
    exact get j (by omega)
theorem low_of {ss : List Sp2} {a c : Nat} {sh : Sp2} (hc : c ≤ ss.length) (q : Shared ss a c sh) : maxL ((slS ss a c).map (·.1)) = sh.1 := by
  refine (maxL_is ?_ fun y hy => ?_).symm
  · obtain ⟨j, j1, j2, j3⟩ := q.lo
    exact List.mem_map.mpr ⟨gS ss j, (mem_slS hc).mpr ⟨j, j1, j2, rfl⟩, j3⟩
  · obtain ⟨s, hs, rfl⟩ := List.mem_map.mp hy
    obtain ⟨j, j1, j2, rfl⟩ := (mem_slS hc).mp hs
    exact (q.all j j1 j2).1
theorem high_of {ss : List Sp2} {a c : Nat} {sh : Sp2} (hc : c ≤ ss.length) (q : Shared ss a c sh) : minL ((slS ss a c).map (·.2)) = sh.2 := by
  refine (minL_is ?_ fun y hy => ?_).symm
  · obtain ⟨j, j1, j2, j3⟩ := q.hi
    exact List.mem_map.mpr ⟨gS ss j, (mem_slS hc).mpr ⟨j, j1, j2, rfl⟩, j3⟩
  · obtain ⟨s, hs, rfl⟩ := List.mem_map.mp hy
    obtain ⟨j, j1, j2, rfl⟩ := (mem_slS hc).mp hs
    exact (q.all j j1 j2).2
theorem last_map {xs : List Int} {a : Int} (h : xs.getLast? = some a) : atI (xs.map D.int) (-1) = some (.int a) := by
  have h1 : xs ≠ [] := fun e => by
    rw [e] at h
    cases h
  have h2 : xs.map D.int ≠ [] := fun e => h1 (List.map_eq_nil_iff.mp e)
  rw [at_last h2]
  have e : (xs.map D.int).getLast h2 = D.int (xs.getLast h1) := List.getLast_map (f := D.int) (h := h2)
  rw [e]
  rw [List.getLast?_eq_some_getLast h1] at h
  rw [Option.some.inj h]
theorem last_rep {xs : List Int} {n : Nat} {a : Int} (h : 0 < n) : (xs ++ List.replicate n a).getLast? = some a := by
  obtain ⟨m, rfl⟩ : ∃ m, n = m + 1 := ⟨n - 1, by omega⟩
  rw [List.replicate_succ', ← List.append_assoc, List.getLast?_concat]
def pyT (r : List Int) : PyData := .tuple (r.map .int)
def pyL (r : List Int) : PyData := .list (r.map .int)
theorem pyDs_ints {st : Sto} : ∀ r : List Int, pyDs st (r.map .int) = some (r.map .int)
  | [] => rfl
  | x :: r => by
    show (match pyD st (.int x), pyDs st (r.map .int) with
      | some d, some ds => some (d :: ds)
      | _, _ => none) = _
    rw [pyDs_ints r]
    rfl
theorem depth_ints : ∀ r : List Int, PyData.depthAll (r.map .int) = 0
  | [] => by simp [PyData.depthAll]
  | x :: r => by simp [PyData.depthAll, PyData.depth, depth_ints r]
theorem plain_ints2 : ∀ r : List Int, PyData.plainAll (r.map .int) = true
  | [] => rfl
  | x :: r => by
    show (true && PyData.plainAll (r.map .int)) = true
    rw [plain_ints2 r]
    rfl
theorem pyDs_tups {st : Sto} : ∀ rs : List (List Int), pyDs st (rs.map fun r => .tup (r.map .int)) = some (rs.map pyT)
  | [] => rfl
  | r :: rs => by
    show (match (pyDs st (r.map .int)).map PyData.tuple, pyDs st (rs.map fun r => .tup (r.map .int)) with
      | some d, some ds => some (d :: ds)
      | _, _ => none) = _
    rw [pyDs_tups rs, pyDs_ints r]
    rfl
theorem pyDs_lsts {st : Sto} : ∀ rs : List (List Int), pyDs st (rs.map fun r => .lst (r.map .int)) = some (rs.map pyL)
  | [] => rfl
  | r :: rs => by
    show (match (pyDs st (r.map .int)).map PyData.list, pyDs st (rs.map fun r => .lst (r.map .int)) with
      | some d, some ds => some (d :: ds)
      | _, _ => none) = _
    rw [pyDs_lsts rs, pyDs_ints r]
    rfl
theorem depth_T : ∀ rs : List (List Int), PyData.depthAll (rs.map pyT) ≤ 1
  | [] => by simp [PyData.depthAll]
  | r :: rs => by
    have ih := depth_T rs
    simp [PyData.depthAll, pyT, PyData.depth, depth_ints r] at ih ⊢
    omega
theorem depth_L : ∀ rs : List (List Int), PyData.depthAll (rs.map pyL) ≤ 1
  | [] => by simp [PyData.depthAll]
  | r :: rs => by
    have ih := depth_L rs
    simp [PyData.depthAll, pyL, PyData.depth, depth_ints r] at ih ⊢
    omega
theorem plain_T : ∀ rs : List (List Int), PyData.plainAll (rs.map pyT) = true
  | [] => rfl
  | r :: rs => by
    show (PyData.plainAll (r.map .int) && PyData.plainAll (rs.map pyT)) = true
    rw [plain_ints2, plain_T rs]
    rfl
theorem plain_L : ∀ rs : List (List Int), PyData.plainAll (rs.map pyL) = true
  | [] => rfl
  | r :: rs => by
    show (PyData.plainAll (r.map .int) && PyData.plainAll (rs.map pyL)) = true
    rw [plain_ints2, plain_L rs]
    rfl
theorem eq_tups {rs : List (List Int)} {neg : Bool} {st : Sto} : eqD neg (.lst (rs.map fun r => .tup (r.map .int))) (.lst (rs.map fun r => .tup (r.map .int))) st = .ok (.bl (!neg)) st := by
  have h : pyD st (.lst (rs.map fun r => .tup (r.map .int))) = some (.list (rs.map pyT)) := by
    show (pyDs st (rs.map fun r => .tup (r.map .int))).map PyData.list = _
    rw [pyDs_tups]
    rfl
  have d : (PyData.list (rs.map pyT)).depth ≤ 60 := by
    have := depth_T rs
    simp [PyData.depth] at this ⊢
    omega
  rw [eq_gen h h (by omega), PySem.SeqAt.eqv_refl_plain (.list (rs.map pyT)) (plain_T rs)]
  cases neg <;> rfl
theorem eq_lsts {rs : List (List Int)} {neg : Bool} {st : Sto} : eqD neg (.lst (rs.map fun r => .lst (r.map .int))) (.lst (rs.map fun r => .lst (r.map .int))) st = .ok (.bl (!neg)) st := by
  have h : pyD st (.lst (rs.map fun r => .lst (r.map .int))) = some (.list (rs.map pyL)) := by
    show (pyDs st (rs.map fun r => .lst (r.map .int))).map PyData.list = _
    rw [pyDs_lsts]
    rfl
  have d : (PyData.list (rs.map pyL)).depth ≤ 60 := by
    have := depth_L rs
    simp [PyData.depth] at this ⊢
    omega
  rw [eq_gen h h (by omega), PySem.SeqAt.eqv_refl_plain (.list (rs.map pyL)) (plain_L rs)]
  cases neg <;> rfl
theorem eq_encs {ss : List Sp2} {neg : Bool} {st : Sto} : eqD neg (.lst (encs ss)) (.lst (encs ss)) st = .ok (.bl (!neg)) st := by
  have e : encs ss = (ss.map fun p => [p.1, p.2]).map fun r => .lst (r.map .int) := by
    unfold encs
    rw [List.map_map]
    rfl
  rw [e, eq_lsts]
end K75
namespace K75
open PySem L2 ND
/-! ### sorted lists: first, last, middle -/
theorem sortI_perm (ns : List Int) : (sortI ns).Perm ns := List.mergeSort_perm ns _
theorem sortI_le (ns : List Int) : (sortI ns).Pairwise (· ≤ ·) := by
  have h := List.pairwise_mergeSort (le := fun i j : Int => decide (i ≤ j)) (fun a b c h1 h2 => decide_eq_true (Int.le_trans (of_decide_eq_true h1) (of_decide_eq_true h2)))
    (fun a b => by
      rcases Int.le_total a b with h | h
      · rw [decide_eq_true h]
        rfl
      · rw [decide_eq_true h, Bool.or_true]) ns
  exact h.imp fun h => of_decide_eq_true h
theorem sortI_len (ns : List Int) : (sortI ns).length = ns.length := (sortI_perm ns).length_eq
theorem sort_first {ns : List Int} (h : 0 < ns.length) : atI ((sortI ns).map D.int) 0 = some (.int (minL ns)) := by
  have hl : 0 < (sortI ns).length := by rw [sortI_len]; exact h
  have e := at_map (f := D.int) (xs := sortI ns) (i := 0) hl
  have q : (sortI ns)[0] = minL ns := by
    refine minL_is ((sortI_perm ns).mem_iff.mp (List.getElem_mem hl)) fun y hy => ?_
    obtain ⟨j, hj, rfl⟩ := List.mem_iff_getElem.mp ((sortI_perm ns).mem_iff.mpr hy)
    by_cases z : j = 0
    · subst z
      exact Int.le_refl _
    · exact List.pairwise_iff_getElem.mp (sortI_le ns) 0 j hl hj (by omega)
  rw [q] at e
  exact e
theorem sort_last {ns : List Int} (h : 0 < ns.length) : atI ((sortI ns).map D.int) (-1) = some (.int (maxL ns)) := by
  have hl : sortI ns ≠ [] := fun e => by
    have := sortI_len ns
    rw [e] at this
    simp at this
    omega
  have e := at_mapL (f := D.int) hl
  have q : (sortI ns).getLast hl = maxL ns := by
    refine maxL_is ((sortI_perm ns).mem_iff.mp (List.getLast_mem hl)) fun y hy => ?_
    obtain ⟨j, hj, rfl⟩ := List.mem_iff_getElem.mp ((sortI_perm ns).mem_iff.mpr hy)
    rw [List.getLast_eq_getElem hl]
    by_cases z : j = (sortI ns).length - 1
    · have : (sortI ns)[j] = (sortI ns)[(sortI ns).length - 1] := by congr 1
      omega
    · exact List.pairwise_iff_getElem.mp (sortI_le ns) j _ hj (by omega) (by omega)
  rw [q] at e
  exact e
theorem sort_mid {a x b : Int} (h : a ≤ b) : atI ((sortI [a, x, b]).map D.int) 1 = some (.int (max a (min b x))) := by
  have sw : ∀ p q r : Int, [p, q, r].Pairwise (· ≤ ·) ↔ (p ≤ q ∧ p ≤ r) ∧ q ≤ r := fun p q r => by simp
  by_cases h1 : x < a
  · have e := sortI_same (ns := [a, x, b]) (ms := [x, a, b]) (List.Perm.swap _ _ _) ((sw _ _ _).mpr (by omega))
    rw [← e]
    have z : max a (min b x) = a := by omega
    rw [z]
    rfl
  · by_cases h2 : b < x
    · have e := sortI_same (ns := [a, x, b]) (ms := [a, b, x]) (List.Perm.cons _ (List.Perm.swap _ _ _)) ((sw _ _ _).mpr (by omega))
      rw [← e]
      have z : max a (min b x) = b := by omega
      rw [z]
      rfl
    · have e := sortI_same (ns := [a, x, b]) (ms := [a, x, b]) (List.Perm.refl _) ((sw _ _ _).mpr (by omega))
      rw [← e]
      have z : max a (min b x) = x := by omega
      rw [z]
      rfl
theorem sorted_ok {ns : List Int} {st : Sto} : sortedD false [.lst (ns.map .int)] st = .ok (.lst ((sortI ns).map .int)) st := by
  unfold sortedD
  simp [allInts_map]
/-! ### what all share -/
def sharedL (L : List Sp2) : Option Sp2 := if minL (L.map (·.2)) < maxL (L.map (·.1)) then none else some (maxL (L.map (·.1)), minL (L.map (·.2)))
def optE : Option Sp2 → D
  | some s => enc s
  | none => .non
theorem shared_ok {L : List Sp2} (h : 0 < L.length) (hz : L.length ≤ 1000) {st : Sto} : m__law_shared [.lst (encs L)] st = .ok (optE (sharedL L)) st := by
  have e1 : m__law_shared [.lst (encs L)] st = fnEnd false st (y__law_shared [some (.lst (encs L)), none, none, none] st) := rfl
  have hl : (encs L).length ≤ 16777216 := by unfold encs; rw [List.length_map]; omega
  have c1 : ∀ x1 : Option D, eComp false (iVal (eVar 0)) (gNm 3) bYes (e2 ixD (eVar 3) (eK (.int 0))) [3] [some (.lst (encs L)), x1, none, none] st = .ok (.lst ((L.map (·.1)).map .int)) st := fun x1 => by
    rw [eComp_pure (ds := encs L) (s1 := st) rfl (fun d => match d with
      | .lst (a :: _) => a
      | d => d) (fun _ => true) hl (fun d hd => by
        obtain ⟨s, _, rfl⟩ := List.mem_map.mp hd
        exact ⟨_, rfl, rfl, fun _ => by simp [enc]⟩), List.filter_eq_self.mpr (fun _ _ => rfl)]
    unfold encs
    rw [List.map_map, List.map_map]
    rfl
  have c2 : ∀ x1 : Option D, eComp false (iVal (eVar 0)) (gNm 3) bYes (e2 ixD (eVar 3) (eK (.int 1))) [3] [some (.lst (encs L)), x1, none, none] st = .ok (.lst ((L.map (·.2)).map .int)) st := fun x1 => by
    rw [eComp_pure (ds := encs L) (s1 := st) rfl (fun d => match d with
      | .lst [_, b] => b
      | d => d) (fun _ => true) hl (fun d hd => by
        obtain ⟨s, _, rfl⟩ := List.mem_map.mp hd
        exact ⟨_, rfl, rfl, fun _ => by simp [enc]⟩), List.filter_eq_self.mpr (fun _ _ => rfl)]
    unfold encs
    rw [List.map_map, List.map_map]
    rfl
  have s1 := sort_last (ns := L.map (·.1)) (by rw [List.length_map]; exact h)
  have s2 := sort_first (ns := L.map (·.2)) (by rw [List.length_map]; exact h)
  have e2 : y__law_shared [some (.lst (encs L)), none, none, none] st = y__law_shared_2 [some (.lst (encs L)), some (.int (maxL (L.map (·.1)))), some (.int (minL (L.map (·.2)))), none] st := by
    simp only [y__law_shared, y__law_shared_1, ev_sSeq, ev_sSet, ev_e2, ev_eC, ev_aCons, ev_aNil, c1, c2, Res.bind_ok, sorted_ok, negI, ev_eK, ix_lst, s1, s2, toS_ok, seq_nx, List.set_cons_succ, List.set_cons_zero]
  rw [e1, e2]
  unfold sharedL
  have hz2 : (2 : Nat) ≤ sizeLine := by rw [sizeLine_eq]; decide
  by_cases q : minL (L.map (·.2)) < maxL (L.map (·.1))
  · rw [if_pos q]
    have e3 : y__law_shared_2 [some (.lst (encs L)), some (.int (maxL (L.map (·.1)))), some (.int (minL (L.map (·.2)))), none] st = .rt .non st := by simp [y__law_shared_2, q]
    rw [e3, end_rt_f]
    exact fin_none0 rfl
  · rw [if_neg q]
    have e3 : y__law_shared_2 [some (.lst (encs L)), some (.int (maxL (L.map (·.1)))), some (.int (minL (L.map (·.2)))), none] st = .rt (enc (maxL (L.map (·.1)), minL (L.map (·.2)))) st := by simp [y__law_shared_2, y__law_shared_3, q, hz2, enc]
    rw [e3, end_rt_f]
    exact fin_none0 rfl
theorem slS_len {ss : List Sp2} {a c : Nat} (hc : c ≤ ss.length) : (slS ss a c).length = c - a := by
  unfold slS
  rw [List.length_take, List.length_drop]
  omega
theorem shared_of {ss : List Sp2} {a c : Nat} {sh : Sp2} (hc : c ≤ ss.length) (q : Shared ss a c sh) : sharedL (slS ss a c) = some sh := by
  unfold sharedL
  have le := q.le
  rw [low_of hc q, high_of hc q, if_neg (by omega)]
theorem shared_none {ss : List Sp2} {a c : Nat} {sh : Sp2} (hc : c + 1 ≤ ss.length) (q : Shared ss a c sh) (ho : over sh (gS ss c) = none) : sharedL (slS ss a (c + 1)) = none := by
  have hn : (over sh (gS ss c)).isNone = true := by rw [ho]; rfl
  rw [over_isNone] at hn
  have lt := q.lt
  unfold sharedL
  have mem : ∀ j, a ≤ j → j < c + 1 → gS ss j ∈ slS ss a (c + 1) := fun j h1 h2 => (mem_slS hc).mpr ⟨j, h1, h2, rfl⟩
  have ne : 0 < (slS ss a (c + 1)).length := by rw [slS_len hc]; omega
  have mx : ∀ y ∈ (slS ss a (c + 1)).map (·.1), y ≤ maxL ((slS ss a (c + 1)).map (·.1)) := by
    intro y hy
    cases hL : (slS ss a (c + 1)).map (·.1) with
    | nil => rw [hL] at hy; cases hy
    | cons x xs =>
      rw [hL] at hy
      obtain ⟨_, f2, f3⟩ := foldl_max xs x
      rcases List.mem_cons.mp hy with rfl | hy
      · exact f2
      · exact f3 y hy
  have mn : ∀ y ∈ (slS ss a (c + 1)).map (·.2), minL ((slS ss a (c + 1)).map (·.2)) ≤ y := by
    intro y hy
    cases hL : (slS ss a (c + 1)).map (·.2) with
    | nil => rw [hL] at hy; cases hy
    | cons x xs =>
      rw [hL] at hy
      obtain ⟨_, f2, f3⟩ := foldl_min xs x
      rcases List.mem_cons.mp hy with rfl | hy
      · exact f2
      · exact f3 y hy
  obtain ⟨j, j1, j2, j3⟩ := q.lo
  obtain ⟨i, i1, i2, i3⟩ := q.hi
  have a1 := mx _ (List.mem_map_of_mem (f := (·.1)) (mem j j1 (by omega)))
  have a2 := mx _ (List.mem_map_of_mem (f := (·.1)) (mem c (by omega) (by omega)))
  have b1 := mn _ (List.mem_map_of_mem (f := (·.2)) (mem i i1 (by omega)))
  have b2 := mn _ (List.mem_map_of_mem (f := (·.2)) (mem c (by omega) (by omega)))
  rw [if_pos (by omega)]
theorem cut_enc {ss : List Sp2} {a c : Nat} (h1 : a ≤ ss.length) (h2 : c ≤ ss.length) : cutD (encs ss) (some (a : Int)) (some (c : Int)) = encs (slS ss a c) := by
  have hel : (encs ss).length = ss.length := by unfold encs; rw [List.length_map]
  rw [cut_nat (by omega) (by omega)]
  unfold encs slS
  rw [List.map_take, List.map_drop]
theorem cut_span {ss : List Sp2} {a c : Nat} (h1 : a ≤ ss.length) (h2 : c ≤ ss.length) : cutD (spans ss) (some (a : Int)) (some (c : Int)) = spans (slS ss a c) := by
  have hel : (spans ss).length = ss.length := by unfold spans; rw [List.length_map]
  rw [cut_nat (by omega) (by omega)]
  unfold spans slS
  rw [List.map_take, List.map_drop]
/-! ### wholes -/
theorem wholes_ok {xs : List Int} {st : Sto} {n : Int} (h : (xs.length : Int) = n) : m__law_wholes [.tup (xs.map .int), .int n] st = .ok (.bl true) st := by
  subst h
  have e1 : m__law_wholes [.tup (xs.map .int), .int (xs.length : Nat)] st = fnEnd false st (y__law_wholes [some (.tup (xs.map .int)), some (.int (xs.length : Nat)), none] st) := rfl
  have i1 : isiD csL itL [.tup (xs.map .int), .ty "tuple"] st = .ok (.bl true) st := rfl
  have h1 : iVal (eVar 0) [some (.tup (xs.map .int)), some (.int (xs.length : Nat)), none] st = .ok (.fz (xs.map .int)) st := rfl
  obtain ⟨e2, s2, hf, x, rfl, rfl⟩ := for_allF (g := gNm 2) (body := l1__law_wholes) h1 (fun i env s => ∃ x, env = [some (.tup (xs.map .int)), some (.int (xs.length : Nat)), x] ∧ st = s) ⟨none, rfl, rfl⟩ (fun i d env s hd ⟨x, q1, q2⟩ => by
    subst q1 q2
    obtain ⟨y, hy, rfl, _⟩ := get_map hd
    exact ⟨_, rfl, _, _, .inl (by simp [l1__law_wholes, whole_ok]), some (.int y), rfl, rfl⟩)
  have e2 : y__law_wholes [some (.tup (xs.map .int)), some (.int (xs.length : Nat)), none] st = .rt (.bl true) st := by
    unfold y__law_wholes y__law_wholes_1
    simp only [ev_sSeq, ev_sIf, ev_bOr, ev_bNot, ev_tru, ev_eC, ev_aCons, ev_aNil, ev_eVar, ev_eK, List.getElem?_cons_succ, List.getElem?_cons_zero, Res.bind_ok, i1, tru_bl, Bool.not_true, Bool.false_eq_true, if_false, ev_toB, ev_e2, ND.len_tup, List.length_map, eq_int, decide_true, if_true, toS_ok, ev_sNil, seq_nx, hf]
    rfl
  rw [e1, e2, end_rt_f]
  exact fin_none0 rfl
/-! ### the runs are runs -/
theorem lv_rd {k n i : Nat} {st : Sto} {ds : List D} (h : st[k]? = some (.lst ds)) : (Src.lv k n).rd i st = some ds[i]? := by
  show (match st[k]? with
    | some (.lst xs) => some xs[i]?
    | _ => none) = _
  rw [h]
theorem src_lv {k : Nat} {st : Sto} {ds : List D} (h : st[k]? = some (.lst ds)) : srcD (.ref k) st = .ok (.lv k ds.length) st := by
  show (match st[k]? with
    | some (.lst xs) => Res.ok (Src.lv k xs.length) st
    | _ => .bad) = _
  rw [h]
theorem are_ok {ss : List Sp2} (hn : ss.length ≤ 60) {rs : List (Nat × Nat)} (sg : Segs ss 0 rs) {k : Nat} {st : Sto} (hk : st[k]? = some (.lst (pairs rs))) : m__law_are_runs [.lst (encs ss), .ref k] st = .ok (.bl true) st := by
  have e1 : m__law_are_runs [.lst (encs ss), .ref k] st = fnEnd false st (y__law_are_runs [some (.lst (encs ss)), some (.ref k), none, none] st) := rfl
  have i1 : isiD csL itL [.ref k, .ty "list"] st = .ok (.bl true) st := by
    simp [isiD, tyD, hk, clD]
    rfl
  have hel : (encs ss).length = ss.length := by unfold encs; rw [List.length_map]
  have h1 : iVal (eVar 1) [some (.lst (encs ss)), some (.ref k), some (.int (0 : Nat)), none] st = .ok (.lv k (pairs rs).length) st := by
    rw [ev_iVal]
    exact src_lv hk
  obtain ⟨e2, s2, hf, i0, x, rfl, rfl, hs⟩ := for_all (ds := pairs rs) (g := gNm 3) (body := l1__law_are_runs) h1 rfl (fun i env s => ∃ (i0 : Nat) (x : Option D), env = [some (.lst (encs ss)), some (.ref k), some (.int i0), x] ∧ st = s ∧ Segs ss i0 (rs.drop i)) ⟨0, none, rfl, rfl, sg⟩
    (fun i env s ⟨_, _, _, e, _⟩ => by rw [← e]; exact lv_rd hk) (fun i d env s hd ⟨i0, x, q1, q2, q3⟩ => by
      subst q1 q2
      obtain ⟨p, hp, rfl, hi⟩ := get_map hd
      have hdr : rs.drop i = p :: rs.drop (i + 1) := by
        rw [List.drop_eq_getElem_cons hi]
        rw [List.getElem?_eq_getElem hi] at hp
        rw [Option.some.inj hp]
      rw [hdr] at q3
      obtain ⟨s1, s2, s3, ⟨sh, s4, s5⟩, s6⟩ := q3
      have lt := s4.lt
      refine ⟨_, rfl, _, _, .inl ?_, p.2 + 1, some (pairN p), rfl, rfl, s6⟩
      have w1 := wholes_ok (xs := [(p.1 : Int), (p.2 : Int)]) (st := st) (n := 2) rfl
      have z1 : (p.2 : Int) + 1 = ((p.2 + 1 : Nat) : Int) := by omega
      have z2 : (p.2 : Int) + 2 = ((p.2 + 2 : Nat) : Int) := by omega
      have c1 := cut_enc (ss := ss) (a := i0) (c := p.2 + 1) (by omega) (by omega)
      have g1 := shared_ok (L := slS ss i0 (p.2 + 1)) (st := st) (by rw [slS_len (by omega)]; omega) (by rw [slS_len (by omega)]; omega)
      rw [shared_of (by omega) s4] at g1
      have p1 : l1__law_are_runs [some (.lst (encs ss)), some (.ref k), some (.int i0), some (pairN p)] st = l1__law_are_runs_2 [some (.lst (encs ss)), some (.ref k), some (.int i0), some (pairN p)] st := by
        have n1 : ¬ ((p.2 : Int) < i0) := by omega
        have n2 : ¬ ((ss.length : Int) ≤ p.2) := by omega
        have n3 : isN false (optE (some sh)) .non st = .ok (.bl false) st := rfl
        simp only [List.map_cons, List.map_nil, s1] at w1
        have n4 : decide ((i0 : Int) = i0) = true := decide_eq_true rfl
        simp only [l1__law_are_runs, l1__law_are_runs_1, pairN, ev_sSeq, ev_sNil, ev_sIf, ev_sSet, ev_sDrop, ev_sRet, ev_sRetN, ev_sSetIx, ev_sAug, ev_bAnd, ev_bOr, ev_bNot, ev_bYes, ev_tru, ev_toB, ev_e2, ev_eVar, ev_eK, ev_eC, ev_eC0, ev_aCons, ev_aNil, ev_eIf, ev_eAnd, ev_eOr, ev_eNot, ev_eSl, ev_oSome, ev_oNone, ev_eFld, ev_eMeth, ev_eBM, ev_iVal, ev_iR1, ev_iR2, ev_gNm, ev_mkL_f, ev_mkL_t, ev_wipe0, ev_wipe1, ev_eLst0, ev_eTup0, List.getElem?_cons_succ, List.getElem?_cons_zero, List.set_cons_succ, List.set_cons_zero, Res.bind_ok, toS_ok, seq_nx, seq_rt, seq_bk, seq_ct, tru_bl, Bool.not_true, Bool.not_false, Bool.false_eq_true, Bool.true_eq_false, if_true, if_false, ND.ix_tup, ix_lst, at_0, at_1, at_2, at_3, at_4, ND.len_tup, ND.len_lst, eq_int, eq_bl, op_addI, op_subI, op_ltI, op_leI, op_gtI, op_geI, op_addX_i, op_addX_s, op_addX_l, op_addX_t, op_mulX_i, op_mulX_l, op_isN_non, op_isN_tup, op_isN_lst, op_isN_ins, op_isB, sl_lst, int_int, int_bl, i1_int, i2f_int, src_tup, src_lst, negI, decide_true, decide_false, s1, w1, decide_eq_false n1, decide_eq_false n2, hel, z1, c1, g1, n3]
      have p2 : l1__law_are_runs_2 [some (.lst (encs ss)), some (.ref k), some (.int i0), some (pairN p)] st = .nx [some (.lst (encs ss)), some (.ref k), some (.int ((p.2 + 1 : Nat) : Int)), some (pairN p)] st := by
        by_cases hl : p.2 + 1 < ss.length
        · have c2 := cut_enc (ss := ss) (a := i0) (c := p.2 + 2) (by omega) (by omega)
          have g2 := shared_ok (L := slS ss i0 (p.2 + 2)) (st := st) (by rw [slS_len (by omega)]; omega) (by rw [slS_len (by omega)]; omega)
          rw [shared_none (by omega) s4 (s5 hl)] at g2
          have n1 : ((p.2 + 1 : Nat) : Int) < ss.length := by omega
          have n3 : isN true (optE none) .non st = .ok (.bl false) st := rfl
          simp only [l1__law_are_runs_2, l1__law_are_runs_3, pairN, ev_sSeq, ev_sIf, ev_bAnd, ev_toB, ev_e2, ev_eVar, ev_eK, ev_eC, ev_aCons, ev_aNil, List.getElem?_cons_succ, List.getElem?_cons_zero, Res.bind_ok, ND.ix_tup, at_1, op_addX_i, op_addI, z1, ND.len_lst, hel, op_ltI, decide_eq_true n1, if_true, ev_eSl, ev_oSome, sl_lst, z2, c2, g2, n3, toS_ok, Bool.false_eq_true, if_false, ev_sNil, seq_nx, ev_sSet, List.set_cons_succ, List.set_cons_zero]
        · have n1 : ¬ ((p.2 + 1 : Nat) : Int) < ss.length := by omega
          simp only [l1__law_are_runs_2, l1__law_are_runs_3, pairN, ev_sSeq, ev_sIf, ev_bAnd, ev_toB, ev_e2, ev_eVar, ev_eK, ev_eC, ev_aCons, ev_aNil, List.getElem?_cons_succ, List.getElem?_cons_zero, Res.bind_ok, ND.ix_tup, at_1, op_addX_i, op_addI, z1, ND.len_lst, hel, op_ltI, decide_eq_false n1, toS_ok, Bool.false_eq_true, if_false, ev_sNil, seq_nx, ev_sSet, List.set_cons_succ, List.set_cons_zero]
      rw [← p2, ← p1]
      rfl)
  have hend : i0 = ss.length := by
    have hpl : (pairs rs).length = rs.length := by unfold pairs; rw [List.length_map]
    rw [hpl, List.drop_length] at hs
    exact hs
  subst hend
  have e2 : y__law_are_runs [some (.lst (encs ss)), some (.ref k), none, none] st = .rt (.bl true) st := by
    have hf' : sFor (iVal (eVar 1)) (gNm 3) l1__law_are_runs [some (.lst (encs ss)), some (.ref k), some (.int 0), none] st = _ := hf
    simp only [y__law_are_runs, y__law_are_runs_1, y__law_are_runs_2, y__law_are_runs_3, ev_sSeq, ev_sIf, ev_bNot, ev_tru, ev_eC, ev_aCons, ev_aNil, ev_eVar, ev_eK, List.getElem?_cons_succ, List.getElem?_cons_zero, Res.bind_ok, i1, tru_bl, Bool.not_true, Bool.false_eq_true, if_false, toS_ok, ev_sNil, seq_nx, ev_sSet, List.set_cons_succ, List.set_cons_zero, hf', ev_sRet, ev_e2, ND.len_lst, hel, eq_int, decide_true]
  rw [e1, e2, end_rt_f]
  exact fin_none0 rfl
end K75
namespace K75
open PySem L2 ND
/-! ### common, nearest -/
def commonL : Sp2 → List Sp2 → Option Sp2
  | sh, [] => some sh
  | sh, s :: r => match over sh s with
    | none => none
    | some u => commonL u r
theorem common_is {x : Int} : ∀ (L : List Sp2) (sh : Sp2), sh.1 ≤ x → x ≤ sh.2 → (∀ t ∈ L, t.1 ≤ x ∧ x ≤ t.2) → ∃ u : Sp2, commonL sh L = some u ∧ (∀ t ∈ sh :: L, t.1 ≤ u.1 ∧ u.2 ≤ t.2) ∧ (∃ t ∈ sh :: L, t.1 = u.1) ∧ ∃ t ∈ sh :: L, t.2 = u.2
  | [], sh, h1, h2, _ => ⟨sh, rfl, fun t ht => by
      rw [List.mem_singleton.mp ht]
      exact ⟨Int.le_refl _, Int.le_refl _⟩, ⟨sh, List.mem_singleton.mpr rfl, rfl⟩, ⟨sh, List.mem_singleton.mpr rfl, rfl⟩⟩
  | s :: r, sh, h1, h2, h3 => by
    have hs := h3 s List.mem_cons_self
    have ho : over sh s = some (max sh.1 s.1, min sh.2 s.2) := if_neg (by omega)
    obtain ⟨u, e, a, ⟨t1, b1, b2⟩, ⟨t2, c1, c2⟩⟩ := common_is r (max sh.1 s.1, min sh.2 s.2) (by show max sh.1 s.1 ≤ x; omega) (by show x ≤ min sh.2 s.2; omega) fun t ht => h3 t (List.mem_cons_of_mem _ ht)
    refine ⟨u, by unfold commonL; rw [ho]; exact e, fun t ht => ?_, ?_, ?_⟩
    · have z : max sh.1 s.1 ≤ u.1 ∧ u.2 ≤ min sh.2 s.2 := a _ List.mem_cons_self
      rcases List.mem_cons.mp ht with rfl | ht
      · omega
      · rcases List.mem_cons.mp ht with rfl | ht
        · omega
        · exact a t (List.mem_cons_of_mem _ ht)
    · rcases List.mem_cons.mp b1 with rfl | b1
      · have b3 : max sh.1 s.1 = u.1 := b2
        by_cases q : sh.1 ≤ s.1
        · exact ⟨s, by simp, by omega⟩
        · exact ⟨sh, by simp, by omega⟩
      · exact ⟨t1, by simp [b1], b2⟩
    · rcases List.mem_cons.mp c1 with rfl | c1
      · have c3 : min sh.2 s.2 = u.2 := c2
        by_cases q : sh.2 ≤ s.2
        · exact ⟨sh, by simp, by omega⟩
        · exact ⟨s, by simp, by omega⟩
      · exact ⟨t2, by simp [c1], c2⟩
theorem common_seg {ss : List Sp2} {a c : Nat} {sh : Sp2} (hc : c ≤ ss.length) (q : Shared ss a c sh) : ∃ s L, slS ss a c = s :: L ∧ commonL s L = some sh := by
  have lt := q.lt
  obtain ⟨s, L, e⟩ := List.exists_cons_of_length_pos (l := slS ss a c) (by rw [slS_len hc]; omega)
  refine ⟨s, L, e, ?_⟩
  have mem : ∀ t, t ∈ s :: L ↔ ∃ j, a ≤ j ∧ j < c ∧ gS ss j = t := fun t => by rw [← e]; exact mem_slS hc
  have all : ∀ t ∈ s :: L, t.1 ≤ sh.1 ∧ sh.2 ≤ t.2 := fun t ht => by
    obtain ⟨j, j1, j2, rfl⟩ := (mem t).mp ht
    exact q.all j j1 j2
  have le := q.le
  obtain ⟨u, eu, u1, ⟨t1, b1, b2⟩, ⟨t2, c1, c2⟩⟩ := common_is (x := sh.1) L s (all s List.mem_cons_self).1 (by have := (all s List.mem_cons_self).2; omega) fun t ht => by
    have := all t (List.mem_cons_of_mem _ ht)
    omega
  have x1 := all t1 b1
  have x2 := all t2 c1
  obtain ⟨j, j1, j2, j3⟩ := q.lo
  obtain ⟨i, i1, i2, i3⟩ := q.hi
  have y1 := u1 _ ((mem _).mpr ⟨j, j1, j2, rfl⟩)
  have y2 := u1 _ ((mem _).mpr ⟨i, i1, i2, rfl⟩)
  rw [eu]
  congr 1
  refine Prod.ext ?_ ?_ <;> omega
theorem common_y {sh u : Sp2} {L : List Sp2} {s0 : Sp2} (h : commonL s0 L = some u) {st : Sto} : y_common [some (.tup (spans (s0 :: L))), none, none] st = .rt (spanD u) st := by
  have hcut : cutD (spans (s0 :: L)) (some 1) none = spans L := by
    have := cut_from (xs := spans (s0 :: L)) (a := 1)
    exact this
  have h1 : iVal (eSl (eVar 0) (oSome (eK (.int 1))) oNone) [some (.tup (spans (s0 :: L))), some (spanD s0), none] st = .ok (.fz (spans L)) st := by
    show (Res.ok (.tup (cutD (spans (s0 :: L)) (some 1) none)) st).bind srcD = _
    rw [hcut]
    rfl
  obtain ⟨e2, s2, hf, v, x, q1, q2, q3⟩ := for_allF (g := gNm 2) (body := l1_common) h1 (fun i env s => ∃ (v : Sp2) (x : Option D), env = [some (.tup (spans (s0 :: L))), some (spanD v), x] ∧ st = s ∧ commonL v (L.drop i) = some u) ⟨s0, none, rfl, rfl, h⟩ (fun i d env s hd ⟨v, x, q1, q2, q3⟩ => by
    subst q1 q2
    obtain ⟨t, ht, rfl, hi⟩ := get_map hd
    have hdr : L.drop i = t :: L.drop (i + 1) := by
      rw [List.drop_eq_getElem_cons hi]
      rw [List.getElem?_eq_getElem hi] at ht
      rw [Option.some.inj ht]
    rw [hdr] at q3
    unfold commonL at q3
    cases ho : over v t with
    | none =>
      rw [ho] at q3
      cases q3
    | some w =>
      rw [ho] at q3
      refine ⟨_, rfl, _, _, .inl ?_, w, some (spanD t), rfl, rfl, q3⟩
      have n1 : isN false (spanD w) .non st = .ok (.bl false) st := rfl
      simp only [l1_common, l1_common_1, ev_sSeq, ev_sNil, ev_sIf, ev_sSet, ev_sDrop, ev_sRet, ev_sRetN, ev_sSetIx, ev_sAug, ev_bAnd, ev_bOr, ev_bNot, ev_bYes, ev_tru, ev_toB, ev_e2, ev_eVar, ev_eK, ev_eC, ev_eC0, ev_aCons, ev_aNil, ev_eIf, ev_eAnd, ev_eOr, ev_eNot, ev_eSl, ev_oSome, ev_oNone, ev_eFld, ev_eMeth, ev_eBM, ev_iVal, ev_iR1, ev_iR2, ev_gNm, ev_mkL_f, ev_mkL_t, ev_wipe0, ev_wipe1, ev_eLst0, ev_eTup0, List.getElem?_cons_succ, List.getElem?_cons_zero, List.set_cons_succ, List.set_cons_zero, Res.bind_ok, toS_ok, seq_nx, seq_rt, seq_bk, seq_ct, tru_bl, Bool.not_true, Bool.not_false, Bool.false_eq_true, Bool.true_eq_false, if_true, if_false, ND.ix_tup, ix_lst, at_0, at_1, at_2, at_3, at_4, ND.len_tup, ND.len_lst, eq_int, eq_bl, op_addI, op_subI, op_ltI, op_leI, op_gtI, op_geI, op_addX_i, op_addX_s, op_addX_l, op_addX_t, op_mulX_i, op_mulX_l, op_isN_non, op_isN_tup, op_isN_lst, op_isN_ins, op_isB, sl_lst, int_int, int_bl, i1_int, i2f_int, src_tup, src_lst, negI, decide_true, decide_false, both_ok, ho, overD, n1])
  subst q1 q2
  have hl : (spans L).length = L.length := by unfold spans; rw [List.length_map]
  rw [hl, List.drop_length] at q3
  cases q3
  have hh2 : (spans (s0 :: L))[0]? = some (spanD s0) := rfl
  simp only [y_common, y_common_1, y_common_2, ev_sSeq, ev_sNil, ev_sIf, ev_sSet, ev_sDrop, ev_sRet, ev_sRetN, ev_sSetIx, ev_sAug, ev_bAnd, ev_bOr, ev_bNot, ev_bYes, ev_tru, ev_toB, ev_e2, ev_eVar, ev_eK, ev_eC, ev_eC0, ev_aCons, ev_aNil, ev_eIf, ev_eAnd, ev_eOr, ev_eNot, ev_eSl, ev_oSome, ev_oNone, ev_eFld, ev_eMeth, ev_eBM, ev_iVal, ev_iR1, ev_iR2, ev_gNm, ev_mkL_f, ev_mkL_t, ev_wipe0, ev_wipe1, ev_eLst0, ev_eTup0, List.getElem?_cons_succ, List.getElem?_cons_zero, List.set_cons_succ, List.set_cons_zero, Res.bind_ok, toS_ok, seq_nx, seq_rt, seq_bk, seq_ct, tru_bl, Bool.not_true, Bool.not_false, Bool.false_eq_true, Bool.true_eq_false, if_true, if_false, ND.ix_tup, ix_lst, at_0, at_1, at_2, at_3, at_4, ND.len_tup, ND.len_lst, eq_int, eq_bl, op_addI, op_subI, op_ltI, op_leI, op_gtI, op_geI, op_addX_i, op_addX_s, op_addX_l, op_addX_t, op_mulX_i, op_mulX_l, op_isN_non, op_isN_tup, op_isN_lst, op_isN_ins, op_isB, sl_lst, int_int, int_bl, i1_int, i2f_int, src_tup, src_lst, negI, decide_true, decide_false, hh2, hf]
theorem star_common {s0 u : Sp2} {L : List Sp2} (h : commonL s0 L = some u) (hz : L.length ≤ 1000) {i : Nat} {env : ND.Env} {st : Sto} (he : env[i]? = some (some (.tup (spans (s0 :: L))))) : eStar1 m_common (eVar i) env st = .ok (spanD u) st := by
  have e1 : eStar1 m_common (eVar i) env st = m_common (spans (s0 :: L)) st := by
    unfold eStar1
    rw [ev_eVar, he]
    rfl
  have hl : (spans (s0 :: L)).length ≤ sizeLine := by unfold spans; rw [List.length_map, sizeLine_eq]; simp; omega
  have e2 : m_common (spans (s0 :: L)) st = fnEnd false st (y_common [some (.tup (spans (s0 :: L))), none, none] st) := by
    unfold m_common fnStar
    rw [if_pos (show Ok _ from hl)]
    rfl
  rw [e1, e2, common_y (sh := u) h, end_rt_f]
  exact fin_none0 rfl
theorem near_ok {s : Sp2} (h : s.1 ≤ s.2) {x : Int} {st : Sto} : m_Span_nearest [spanD s, .int x] st = .ok (.int (max s.1 (min s.2 x))) st := by
  have e1 : m_Span_nearest [spanD s, .int x] st = fnEnd false st (y_Span_nearest [some (spanD s), some (.int x)] st) := rfl
  have e2 : y_Span_nearest [some (spanD s), some (.int x)] st = .rt (.int (max s.1 (min s.2 x))) st := by
    by_cases h1 : x < s.1
    · have z : max s.1 (min s.2 x) = s.1 := by omega
      rw [z]
      simp [y_Span_nearest, spanD, ftL, fget, h1]
    · by_cases h2 : s.2 < x
      · have z : max s.1 (min s.2 x) = s.2 := by omega
        rw [z]
        simp [y_Span_nearest, y_Span_nearest_1, spanD, ftL, fget, h1, h2]
      · have z : max s.1 (min s.2 x) = x := by omega
        rw [z]
        simp [y_Span_nearest, y_Span_nearest_1, y_Span_nearest_2, spanD, ftL, fget, h1, h2]
  rw [e1, e2, end_rt_f]
  exact fin_none0 rfl
/-! ### the way -/
theorem snoc_ints (xs : List Int) (a : Int) (n : Nat) : (xs ++ List.replicate (n + 1) a).map D.int = (xs ++ List.replicate n a).map D.int ++ [D.int a] := by
  rw [List.replicate_succ', ← List.append_assoc, List.map_append]
  rfl
theorem way_in {r : Sto} {xs : List Int} {a : Int} {cs : List D} (hz : xs.length + cs.length ≤ 10000) (x0 x2 x3 x5 x7 : Option D) :
    ∃ y7, l1_way_3 [x0, some (.ref r.length), x2, x3, some (.tup cs), x5, some (.int a), x7] (r ++ [.lst (xs.map .int)]) = .nx [x0, some (.ref r.length), x2, x3, some (.tup cs), x5, some (.int a), y7] (r ++ [.lst ((xs ++ List.replicate cs.length a).map .int)]) := by
  have h1 : iVal (eVar 4) [x0, some (.ref r.length), x2, x3, some (.tup cs), x5, some (.int a), x7] (r ++ [.lst (xs.map .int)]) = .ok (.fz cs) (r ++ [.lst (xs.map .int)]) := rfl
  obtain ⟨e2, s2, hf, y, q1, q2⟩ := for_allF (g := gNm 7) (body := l2_way) h1 (fun i env s => ∃ y, env = [x0, some (.ref r.length), x2, x3, some (.tup cs), x5, some (.int a), y] ∧ s = r ++ [.lst ((xs ++ List.replicate i a).map .int)]) ⟨x7, rfl, by simp⟩ (fun i d env s hd ⟨y, q1, q2⟩ => by
    subst q1 q2
    have hi : i < cs.length := (List.getElem?_eq_some_iff.mp hd).1
    have ap := app_last0 (r := r) (xs := (xs ++ List.replicate i a).map .int) (y := .int a) (by simp; omega)
    refine ⟨_, rfl, _, _, .inl ?_, some d, rfl, by rw [snoc_ints]⟩
    simp only [l2_way, ev_sSeq, ev_sNil, ev_sIf, ev_sSet, ev_sDrop, ev_sRet, ev_sRetN, ev_sSetIx, ev_sAug, ev_bAnd, ev_bOr, ev_bNot, ev_bYes, ev_tru, ev_toB, ev_e2, ev_eVar, ev_eK, ev_eC, ev_eC0, ev_aCons, ev_aNil, ev_eIf, ev_eAnd, ev_eOr, ev_eNot, ev_eSl, ev_oSome, ev_oNone, ev_eFld, ev_eMeth, ev_eBM, ev_iVal, ev_iR1, ev_iR2, ev_gNm, ev_mkL_f, ev_mkL_t, ev_wipe0, ev_wipe1, ev_eLst0, ev_eTup0, List.getElem?_cons_succ, List.getElem?_cons_zero, List.set_cons_succ, List.set_cons_zero, Res.bind_ok, toS_ok, seq_nx, seq_rt, seq_bk, seq_ct, tru_bl, Bool.not_true, Bool.not_false, Bool.false_eq_true, Bool.true_eq_false, if_true, if_false, ND.ix_tup, ix_lst, at_0, at_1, at_2, at_3, at_4, ND.len_tup, ND.len_lst, eq_int, eq_bl, op_addI, op_subI, op_ltI, op_leI, op_gtI, op_geI, op_addX_i, op_addX_s, op_addX_l, op_addX_t, op_mulX_i, op_mulX_l, op_isN_non, op_isN_tup, op_isN_lst, op_isN_ins, op_isB, sl_lst, int_int, int_bl, i1_int, i2f_int, src_tup, src_lst, negI, decide_true, decide_false, sq_ref, get_last, ap])
  subst q1 q2
  exact ⟨y, hf⟩
theorem way_step {ss : List Sp2} (hn : ss.length ≤ 100) {p : Nat × Nat} (h1 : p.1 ≤ p.2) (h2 : p.2 < ss.length) {sh : Sp2} (q : Shared ss p.1 (p.2 + 1) sh) {r : Sto} {xs : List Int} (hx : xs.length = p.1) (x4 x5 x6 x7 : Option D) :
    ∃ y4 y5 y6 y7, l1_way [some (.tup (spans ss)), some (.ref r.length), some (.int p.1), some (.int p.2), x4, x5, x6, x7] (r ++ [.lst (xs.map .int)]) = .nx [some (.tup (spans ss)), some (.ref r.length), some (.int p.1), some (.int p.2), y4, y5, y6, y7] (r ++ [.lst ((xs ++ List.replicate (p.2 + 1 - p.1) (clampS sh xs.getLast?)).map .int)]) := by
  obtain ⟨s0, L, e, hc⟩ := common_seg (c := p.2 + 1) (by omega) q
  have sl := slS_len (ss := ss) (a := p.1) (c := p.2 + 1) (by omega)
  rw [e] at sl
  have cut := cut_span (ss := ss) (a := p.1) (c := p.2 + 1) (by omega) (by omega)
  rw [e] at cut
  have z1 : (p.2 : Int) + 1 = ((p.2 + 1 : Nat) : Int) := by omega
  have hl : L.length ≤ 1000 := by simp at sl; omega
  have k1 : l1_way [some (.tup (spans ss)), some (.ref r.length), some (.int p.1), some (.int p.2), x4, x5, x6, x7] (r ++ [.lst (xs.map .int)]) = l1_way_2 [some (.tup (spans ss)), some (.ref r.length), some (.int p.1), some (.int p.2), some (.tup (spans (s0 :: L))), some (spanD sh), x6, x7] (r ++ [.lst (xs.map .int)]) := by
    have sc := star_common (i := 4) (env := [some (.tup (spans ss)), some (.ref r.length), some (.int p.1), some (.int p.2), some (.tup (spans (s0 :: L))), x5, x6, x7]) (st := r ++ [.lst (xs.map .int)]) hc hl rfl
    have sc0 : ∀ lo hi : Option Int, slD (.tup (spans ss)) lo hi (r ++ [.lst (xs.map .int)]) = .ok (.tup (cutD (spans ss) lo hi)) (r ++ [.lst (xs.map .int)]) := fun _ _ => rfl
    simp only [l1_way, l1_way_1, ev_sSeq, ev_sNil, ev_sIf, ev_sSet, ev_sDrop, ev_sRet, ev_sRetN, ev_sSetIx, ev_sAug, ev_bAnd, ev_bOr, ev_bNot, ev_bYes, ev_tru, ev_toB, ev_e2, ev_eVar, ev_eK, ev_eC, ev_eC0, ev_aCons, ev_aNil, ev_eIf, ev_eAnd, ev_eOr, ev_eNot, ev_eSl, ev_oSome, ev_oNone, ev_eFld, ev_eMeth, ev_eBM, ev_iVal, ev_iR1, ev_iR2, ev_gNm, ev_mkL_f, ev_mkL_t, ev_wipe0, ev_wipe1, ev_eLst0, ev_eTup0, List.getElem?_cons_succ, List.getElem?_cons_zero, List.set_cons_succ, List.set_cons_zero, Res.bind_ok, toS_ok, seq_nx, seq_rt, seq_bk, seq_ct, tru_bl, Bool.not_true, Bool.not_false, Bool.false_eq_true, Bool.true_eq_false, if_true, if_false, ND.ix_tup, ix_lst, at_0, at_1, at_2, at_3, at_4, ND.len_tup, ND.len_lst, eq_int, eq_bl, op_addI, op_subI, op_ltI, op_leI, op_gtI, op_geI, op_addX_i, op_addX_s, op_addX_l, op_addX_t, op_mulX_i, op_mulX_l, op_isN_non, op_isN_tup, op_isN_lst, op_isN_ins, op_isB, sl_lst, int_int, int_bl, i1_int, i2f_int, src_tup, src_lst, negI, decide_true, decide_false, z1, sc0, cut, sc]
  have k2 : l1_way_2 [some (.tup (spans ss)), some (.ref r.length), some (.int p.1), some (.int p.2), some (.tup (spans (s0 :: L))), some (spanD sh), x6, x7] (r ++ [.lst (xs.map .int)]) = l1_way_3 [some (.tup (spans ss)), some (.ref r.length), some (.int p.1), some (.int p.2), some (.tup (spans (s0 :: L))), some (spanD sh), some (.int (clampS sh xs.getLast?)), x7] (r ++ [.lst (xs.map .int)]) := by
    cases hp : p.1 with
    | zero =>
      have hxe : xs = [] := List.length_eq_zero_iff.mp (by omega)
      subst hxe
      simp [l1_way_2, spanD, ftL, fget, clampS]
    | succ m =>
      have hne : xs ≠ [] := fun z => by rw [z] at hx; simp at hx; omega
      have e0 : xs.getLast? = some (xs.getLast hne) := List.getLast?_eq_some_getLast hne
      rw [e0]
      have a1 := at_mapL (f := D.int) hne
      have n0 : ¬ ((m : Int) + 1 = 0) := by omega
      have nr := fun st : Sto => near_ok (s := sh) q.le (x := xs.getLast hne) (st := st)
      unfold spanD at nr
      simp [l1_way_2, spanD, n0, negI, a1, mfind, nr, clampS]
  have hsl : (spans (s0 :: L)).length = p.2 + 1 - p.1 := by unfold spans; rw [List.length_map]; exact sl
  obtain ⟨y7, k3⟩ := way_in (r := r) (xs := xs) (a := clampS sh xs.getLast?) (cs := spans (s0 :: L)) (by omega) (some (.tup (spans ss))) (some (.int p.1)) (some (.int p.2)) (some (spanD sh)) x7
  rw [hsl] at k3
  exact ⟨_, _, _, y7, by rw [k1, k2, k3]⟩
theorem way_ok {ss : List Sp2} (hv : Vd ss) (h0 : 0 < ss.length) (hn : ss.length ≤ 100) {r : Sto} : ∃ xs : List Int, Stops ss 0 none (runsL ss) xs ∧ xs.length = ss.length ∧ m_way [.tup (spans ss)] r = .ok (.tup (xs.map .int)) r := by
  have sg := segs_runs h0 hv
  have hpl : (pairs (runsL ss)).length = (runsL ss).length := by unfold pairs; rw [List.length_map]
  have h1 : iVal (eC m_runs (aCons (eVar 0) aNil)) [some (.tup (spans ss)), some (.ref r.length), none, none, none, none, none, none] (r ++ [.lst (([] : List Int).map .int)]) = .ok (.fz (pairs (runsL ss))) (r ++ [.lst (([] : List Int).map .int)]) := by
    simp only [ev_sSeq, ev_sNil, ev_sIf, ev_sSet, ev_sDrop, ev_sRet, ev_sRetN, ev_sSetIx, ev_sAug, ev_bAnd, ev_bOr, ev_bNot, ev_bYes, ev_tru, ev_toB, ev_e2, ev_eVar, ev_eK, ev_eC, ev_eC0, ev_aCons, ev_aNil, ev_eIf, ev_eAnd, ev_eOr, ev_eNot, ev_eSl, ev_oSome, ev_oNone, ev_eFld, ev_eMeth, ev_eBM, ev_iVal, ev_iR1, ev_iR2, ev_gNm, ev_mkL_f, ev_mkL_t, ev_wipe0, ev_wipe1, ev_eLst0, ev_eTup0, List.getElem?_cons_succ, List.getElem?_cons_zero, List.set_cons_succ, List.set_cons_zero, Res.bind_ok, toS_ok, seq_nx, seq_rt, seq_bk, seq_ct, tru_bl, Bool.not_true, Bool.not_false, Bool.false_eq_true, Bool.true_eq_false, if_true, if_false, ND.ix_tup, ix_lst, at_0, at_1, at_2, at_3, at_4, ND.len_tup, ND.len_lst, eq_int, eq_bl, op_addI, op_subI, op_ltI, op_leI, op_gtI, op_geI, op_addX_i, op_addX_s, op_addX_l, op_addX_t, op_mulX_i, op_mulX_l, op_isN_non, op_isN_tup, op_isN_lst, op_isN_ins, op_isB, sl_lst, int_int, int_bl, i1_int, i2f_int, src_tup, src_lst, negI, decide_true, decide_false, runs_ok h0 hn]
  obtain ⟨e2, s2, hf, xs, i0, x2, x3, x4, x5, x6, x7, q0, q1, q2, q3, q4⟩ := for_allF (g := gTu 2 (gsCons (gNm 2) (gsCons (gNm 3) gsNil))) (body := l1_way) h1
    (fun i env s => ∃ (xs : List Int) (i0 : Nat) (x2 x3 x4 x5 x6 x7 : Option D), env = [some (.tup (spans ss)), some (.ref r.length), x2, x3, x4, x5, x6, x7] ∧ s = r ++ [.lst (xs.map .int)] ∧ Segs ss i0 ((runsL ss).drop i) ∧ xs.length = i0 ∧ ∀ ys, Stops ss i0 xs.getLast? ((runsL ss).drop i) ys → Stops ss 0 none (runsL ss) (xs ++ ys))
    ⟨[], 0, none, none, none, none, none, none, rfl, rfl, sg, rfl, fun ys hy => hy⟩ (fun i d env s hd ⟨xs, i0, x2, x3, x4, x5, x6, x7, q0, q1, q2, q3, q4⟩ => by
      subst q0 q1
      obtain ⟨p, hp, rfl, hi⟩ := get_map hd
      have hdr : (runsL ss).drop i = p :: (runsL ss).drop (i + 1) := by
        rw [List.drop_eq_getElem_cons hi]
        rw [List.getElem?_eq_getElem hi] at hp
        rw [Option.some.inj hp]
      rw [hdr] at q2
      obtain ⟨s1, s2, s3, ⟨sh, s4, s5⟩, s6⟩ := q2
      have s4' : Shared ss p.1 (p.2 + 1) sh := by rw [s1]; exact s4
      obtain ⟨y4, y5, y6, y7, e⟩ := way_step hn (p := p) (by omega) s3 s4' (r := r) (xs := xs) (by omega) x4 x5 x6 x7
      refine ⟨_, rfl, _, _, .inl e, xs ++ List.replicate (p.2 + 1 - p.1) (clampS sh xs.getLast?), p.2 + 1, some (.int p.1), some (.int p.2), y4, y5, y6, y7, rfl, rfl, s6, by rw [List.length_append, List.length_replicate]; omega, fun ys hy => ?_⟩
      rw [last_rep (by omega)] at hy
      rw [List.append_assoc]
      refine q4 _ ?_
      rw [hdr]
      exact ⟨sh, ys, s4, s5, by rw [s1], hy⟩)
  subst q0 q1
  have hdr : (runsL ss).drop (runsL ss).length = [] := List.drop_length
  rw [hpl, hdr] at q2 q4
  have g5 := q4 [] rfl
  rw [List.append_nil] at g5
  refine ⟨xs, g5, by rw [q3]; exact q2, ?_⟩
  have e1 : m_way [.tup (spans ss)] r = fnEnd false r (y_way [some (.tup (spans ss)), none, none, none, none, none, none, none] r) := rfl
  have e2 : y_way [some (.tup (spans ss)), none, none, none, none, none, none, none] r = .rt (.tup (xs.map .int)) (r ++ [.lst (xs.map .int)]) := by
    have hf' : sFor (iVal (eC m_runs (aCons (eVar 0) aNil))) (gTu 2 (gsCons (gNm 2) (gsCons (gNm 3) gsNil))) l1_way [some (.tup (spans ss)), some (.ref r.length), none, none, none, none, none, none] (r ++ [.lst []]) = _ := hf
    simp only [y_way, y_way_1, y_way_2, ev_sSeq, ev_sNil, ev_sIf, ev_sSet, ev_sDrop, ev_sRet, ev_sRetN, ev_sSetIx, ev_sAug, ev_bAnd, ev_bOr, ev_bNot, ev_bYes, ev_tru, ev_toB, ev_e2, ev_eVar, ev_eK, ev_eC, ev_eC0, ev_aCons, ev_aNil, ev_eIf, ev_eAnd, ev_eOr, ev_eNot, ev_eSl, ev_oSome, ev_oNone, ev_eFld, ev_eMeth, ev_eBM, ev_iVal, ev_iR1, ev_iR2, ev_gNm, ev_mkL_f, ev_mkL_t, ev_wipe0, ev_wipe1, ev_eLst0, ev_eTup0, List.getElem?_cons_succ, List.getElem?_cons_zero, List.set_cons_succ, List.set_cons_zero, Res.bind_ok, toS_ok, seq_nx, seq_rt, seq_bk, seq_ct, tru_bl, Bool.not_true, Bool.not_false, Bool.false_eq_true, Bool.true_eq_false, if_true, if_false, ND.ix_tup, ix_lst, at_0, at_1, at_2, at_3, at_4, ND.len_tup, ND.len_lst, eq_int, eq_bl, op_addI, op_subI, op_ltI, op_leI, op_gtI, op_geI, op_addX_i, op_addX_s, op_addX_l, op_addX_t, op_mulX_i, op_mulX_l, op_isN_non, op_isN_tup, op_isN_lst, op_isN_ins, op_isB, sl_lst, int_int, int_bl, i1_int, i2f_int, src_tup, src_lst, negI, decide_true, decide_false, hf', ND.tup_ref, get_last]
  rw [e1, e2, end_rt_f]
  exact fin_none (r := r) (ex := [.lst (xs.map .int)]) (by show pds (xs.map .int) = true; exact pds_ints xs)
end K75
namespace K75
open PySem L2 ND
/-! ### the way that is due -/
theorem shared_uni {ss : List Sp2} {f k : Nat} {s t : Sp2} (p : Shared ss f k s) (q : Shared ss f k t) : s = t := by
  obtain ⟨j, j1, j2, j3⟩ := p.lo
  obtain ⟨i, i1, i2, i3⟩ := p.hi
  obtain ⟨j', k1, k2, k3⟩ := q.lo
  obtain ⟨i', l1, l2, l3⟩ := q.hi
  have a1 := q.all j j1 j2
  have a2 := q.all i i1 i2
  have a3 := p.all j' k1 k2
  have a4 := p.all i' l1 l2
  refine Prod.ext ?_ ?_ <;> omega
theorem stops_uni {ss : List Sp2} : ∀ (rs : List (Nat × Nat)) (i : Nat) (prev : Option Int) (xs ys : List Int), Stops ss i prev rs xs → Stops ss i prev rs ys → xs = ys
  | [], _, _, xs, ys, a, b => (a : xs = []).trans (b : ys = []).symm
  | p :: rs, i, prev, xs, ys, ⟨s, us, a1, _, a2, a3⟩, ⟨t, vs, b1, _, b2, b3⟩ => by
    have e := shared_uni a1 b1
    subst e
    rw [a2, b2, stops_uni rs _ _ us vs a3 b3]
theorem due_in {r : Sto} {xs : List Int} {at_ lo : Int} {n : Nat} {c : Int} (hlo : 0 ≤ lo) (hn : n ≤ 1000) (hc : c = lo + n) (hc2 : c ≤ 100000) (hz : xs.length ≤ 10000) (x0 x1 x4 x6 : Option D) (z : Int) :
    ∃ y6, l1__law_due_way_3 [x0, x1, some (.ref r.length), some (.tup [.int lo, .int (c - 1)]), x4, some (.int at_), x6] (r ++ [.lst (xs.map .int)]) = .nx [x0, x1, some (.ref r.length), some (.tup [.int lo, .int (c - 1)]), x4, some (.int at_), y6] (r ++ [.lst ((xs ++ List.replicate n at_).map .int)]) := by
  have z1 : c - 1 + 1 = c := by omega
  have hr : rng2 lo c (r ++ [.lst (xs.map .int)]) = .ok (.fz (rangeD lo n)) (r ++ [.lst (xs.map .int)]) := by
    rw [rng2_ok (by omega) (by omega) (by omega) (by omega)]
    congr 3
    omega
  have h1 : iR2 (e2 ixD (eVar 3) (eK (.int 0))) (e2 addX (e2 ixD (eVar 3) (eK (.int 1))) (eK (.int 1))) [x0, x1, some (.ref r.length), some (.tup [.int lo, .int (c - 1)]), x4, some (.int at_), x6] (r ++ [.lst (xs.map .int)]) = .ok (.fz (rangeD lo n)) (r ++ [.lst (xs.map .int)]) := by
    simp only [ev_sSeq, ev_sNil, ev_sIf, ev_sSet, ev_sDrop, ev_sRet, ev_sRetN, ev_sSetIx, ev_sAug, ev_bAnd, ev_bOr, ev_bNot, ev_bYes, ev_tru, ev_toB, ev_e2, ev_eVar, ev_eK, ev_eC, ev_eC0, ev_aCons, ev_aNil, ev_eIf, ev_eAnd, ev_eOr, ev_eNot, ev_eSl, ev_oSome, ev_oNone, ev_eFld, ev_eMeth, ev_eBM, ev_iVal, ev_iR1, ev_iR2, ev_gNm, ev_mkL_f, ev_mkL_t, ev_wipe0, ev_wipe1, ev_eLst0, ev_eTup0, List.getElem?_cons_succ, List.getElem?_cons_zero, List.set_cons_succ, List.set_cons_zero, Res.bind_ok, toS_ok, seq_nx, seq_rt, seq_bk, seq_ct, tru_bl, Bool.not_true, Bool.not_false, Bool.false_eq_true, Bool.true_eq_false, if_true, if_false, ND.ix_tup, ix_lst, at_0, at_1, at_2, at_3, at_4, ND.len_tup, ND.len_lst, eq_int, eq_bl, op_addI, op_subI, op_ltI, op_leI, op_gtI, op_geI, op_addX_i, op_addX_s, op_addX_l, op_addX_t, op_mulX_i, op_mulX_l, op_isN_non, op_isN_tup, op_isN_lst, op_isN_ins, op_isB, sl_lst, int_int, int_bl, i1_int, i2f_int, src_tup, src_lst, negI, decide_true, decide_false, z1, hr]
  obtain ⟨e2, s2, hf, y, q1, q2⟩ := for_allF (g := gNm 6) (body := l2__law_due_way) h1 (fun i env s => ∃ y, env = [x0, x1, some (.ref r.length), some (.tup [.int lo, .int (c - 1)]), x4, some (.int at_), y] ∧ s = r ++ [.lst ((xs ++ List.replicate i at_).map .int)]) ⟨x6, rfl, by simp⟩ (fun i d env s hd ⟨y, q1, q2⟩ => by
    subst q1 q2
    have hi := (range_get hd).2
    have ap := app_last0 (r := r) (xs := (xs ++ List.replicate i at_).map .int) (y := .int at_) (by simp; omega)
    refine ⟨_, rfl, _, _, .inl ?_, some d, rfl, by rw [snoc_ints]⟩
    simp only [l2__law_due_way, ev_sSeq, ev_sNil, ev_sIf, ev_sSet, ev_sDrop, ev_sRet, ev_sRetN, ev_sSetIx, ev_sAug, ev_bAnd, ev_bOr, ev_bNot, ev_bYes, ev_tru, ev_toB, ev_e2, ev_eVar, ev_eK, ev_eC, ev_eC0, ev_aCons, ev_aNil, ev_eIf, ev_eAnd, ev_eOr, ev_eNot, ev_eSl, ev_oSome, ev_oNone, ev_eFld, ev_eMeth, ev_eBM, ev_iVal, ev_iR1, ev_iR2, ev_gNm, ev_mkL_f, ev_mkL_t, ev_wipe0, ev_wipe1, ev_eLst0, ev_eTup0, List.getElem?_cons_succ, List.getElem?_cons_zero, List.set_cons_succ, List.set_cons_zero, Res.bind_ok, toS_ok, seq_nx, seq_rt, seq_bk, seq_ct, tru_bl, Bool.not_true, Bool.not_false, Bool.false_eq_true, Bool.true_eq_false, if_true, if_false, ND.ix_tup, ix_lst, at_0, at_1, at_2, at_3, at_4, ND.len_tup, ND.len_lst, eq_int, eq_bl, op_addI, op_subI, op_ltI, op_leI, op_gtI, op_geI, op_addX_i, op_addX_s, op_addX_l, op_addX_t, op_mulX_i, op_mulX_l, op_isN_non, op_isN_tup, op_isN_lst, op_isN_ins, op_isB, sl_lst, int_int, int_bl, i1_int, i2f_int, src_tup, src_lst, negI, decide_true, decide_false, sq_ref, get_last, ap])
  rw [range_len] at q2
  subst q1 q2
  exact ⟨y, hf⟩
theorem due_ok {ss : List Sp2} (hn : ss.length ≤ 60) {rs : List (Nat × Nat)} (sg : Segs ss 0 rs) {k : Nat} {r : Sto} (hk : r[k]? = some (.lst (pairs rs))) : ∃ xs : List Int, Stops ss 0 none rs xs ∧ m__law_due_way [.lst (encs ss), .ref k] r = .ok (.tup (xs.map .int)) r := by
  have hk2 : ∀ x : SO, (r ++ [x])[k]? = some (.lst (pairs rs)) := fun x => by rw [List.getElem?_append_left (List.getElem?_eq_some_iff.mp hk).1]; exact hk
  have hpl : (pairs rs).length = rs.length := by unfold pairs; rw [List.length_map]
  have h1 : iVal (eVar 1) [some (.lst (encs ss)), some (.ref k), some (.ref r.length), none, none, none, none] (r ++ [.lst (([] : List Int).map .int)]) = .ok (.lv k (pairs rs).length) (r ++ [.lst (([] : List Int).map .int)]) := by
    rw [ev_iVal]
    exact src_lv (hk2 _)
  obtain ⟨e2, s2, hf, xs, i0, x3, x4, x5, x6, q0, q1, q2, q3, q4⟩ := for_all (ds := pairs rs) (g := gNm 3) (body := l1__law_due_way) h1 rfl
    (fun i env s => ∃ (xs : List Int) (i0 : Nat) (x3 x4 x5 x6 : Option D), env = [some (.lst (encs ss)), some (.ref k), some (.ref r.length), x3, x4, x5, x6] ∧ s = r ++ [.lst (xs.map .int)] ∧ Segs ss i0 (rs.drop i) ∧ xs.length = i0 ∧ ∀ ys, Stops ss i0 xs.getLast? (rs.drop i) ys → Stops ss 0 none rs (xs ++ ys))
    ⟨[], 0, none, none, none, none, rfl, rfl, sg, rfl, fun ys hy => hy⟩ (fun i env s ⟨_, _, _, _, _, _, _, e, _⟩ => by rw [e]; exact lv_rd (hk2 _)) (fun i d env s hd ⟨xs, i0, x3, x4, x5, x6, q0, q1, q2, q3, q4⟩ => by
      subst q0 q1
      obtain ⟨p, hp, rfl, hi⟩ := get_map hd
      have hdr : rs.drop i = p :: rs.drop (i + 1) := by
        rw [List.drop_eq_getElem_cons hi]
        rw [List.getElem?_eq_getElem hi] at hp
        rw [Option.some.inj hp]
      rw [hdr] at q2
      obtain ⟨s1, s2, s3, ⟨sh, s4, s5⟩, s6⟩ := q2
      have z1 : (p.2 : Int) + 1 = ((p.2 + 1 : Nat) : Int) := by omega
      have c1 := cut_enc (ss := ss) (a := i0) (c := p.2 + 1) (by omega) (by omega)
      have g1 := shared_ok (L := slS ss i0 (p.2 + 1)) (st := r ++ [.lst (xs.map .int)]) (by rw [slS_len (by omega)]; omega) (by rw [slS_len (by omega)]; omega)
      rw [shared_of (by omega) s4] at g1
      unfold optE enc at g1
      have lt := s4.lt
      have k1 : l1__law_due_way [some (.lst (encs ss)), some (.ref k), some (.ref r.length), some (pairN p), x4, x5, x6] (r ++ [.lst (xs.map .int)]) = l1__law_due_way_3 [some (.lst (encs ss)), some (.ref k), some (.ref r.length), some (.tup [.int p.1, .int ((p.2 + 1 : Nat) - 1 : Int)]), some (enc sh), some (.int (clampS sh xs.getLast?)), x6] (r ++ [.lst (xs.map .int)]) := by
        have z2 : ((p.2 + 1 : Nat) - 1 : Int) = p.2 := by omega
        rw [z2]
        have a1 : l1__law_due_way [some (.lst (encs ss)), some (.ref k), some (.ref r.length), some (pairN p), x4, x5, x6] (r ++ [.lst (xs.map .int)]) = l1__law_due_way_2 [some (.lst (encs ss)), some (.ref k), some (.ref r.length), some (pairN p), some (enc sh), some (.int sh.1), x6] (r ++ [.lst (xs.map .int)]) := by
          simp only [l1__law_due_way, l1__law_due_way_1, pairN, enc, ev_sSeq, ev_sNil, ev_sIf, ev_sSet, ev_sDrop, ev_sRet, ev_sRetN, ev_sSetIx, ev_sAug, ev_bAnd, ev_bOr, ev_bNot, ev_bYes, ev_tru, ev_toB, ev_e2, ev_eVar, ev_eK, ev_eC, ev_eC0, ev_aCons, ev_aNil, ev_eIf, ev_eAnd, ev_eOr, ev_eNot, ev_eSl, ev_oSome, ev_oNone, ev_eFld, ev_eMeth, ev_eBM, ev_iVal, ev_iR1, ev_iR2, ev_gNm, ev_mkL_f, ev_mkL_t, ev_wipe0, ev_wipe1, ev_eLst0, ev_eTup0, List.getElem?_cons_succ, List.getElem?_cons_zero, List.set_cons_succ, List.set_cons_zero, Res.bind_ok, toS_ok, seq_nx, seq_rt, seq_bk, seq_ct, tru_bl, Bool.not_true, Bool.not_false, Bool.false_eq_true, Bool.true_eq_false, if_true, if_false, ND.ix_tup, ix_lst, at_0, at_1, at_2, at_3, at_4, ND.len_tup, ND.len_lst, eq_int, eq_bl, op_addI, op_subI, op_ltI, op_leI, op_gtI, op_geI, op_addX_i, op_addX_s, op_addX_l, op_addX_t, op_mulX_i, op_mulX_l, op_isN_non, op_isN_tup, op_isN_lst, op_isN_ins, op_isB, sl_lst, int_int, int_bl, i1_int, i2f_int, src_tup, src_lst, negI, decide_true, decide_false, s1, z1, c1, g1]
        rw [a1]
        have len : lenD [.ref r.length] (r ++ [.lst (xs.map .int)]) = .ok (.int xs.length) (r ++ [.lst (xs.map .int)]) := by
          simp only [len_ref, get_last, List.length_map]
        by_cases hx : xs = []
        · subst hx
          have n0 : ¬ ((0 : Int) < (([] : List Int).length : Nat)) := by simp
          simp only [l1__law_due_way_2, pairN, enc, ev_sSeq, ev_sNil, ev_sIf, ev_sSet, ev_sDrop, ev_sRet, ev_sRetN, ev_sSetIx, ev_sAug, ev_bAnd, ev_bOr, ev_bNot, ev_bYes, ev_tru, ev_toB, ev_e2, ev_eVar, ev_eK, ev_eC, ev_eC0, ev_aCons, ev_aNil, ev_eIf, ev_eAnd, ev_eOr, ev_eNot, ev_eSl, ev_oSome, ev_oNone, ev_eFld, ev_eMeth, ev_eBM, ev_iVal, ev_iR1, ev_iR2, ev_gNm, ev_mkL_f, ev_mkL_t, ev_wipe0, ev_wipe1, ev_eLst0, ev_eTup0, List.getElem?_cons_succ, List.getElem?_cons_zero, List.set_cons_succ, List.set_cons_zero, Res.bind_ok, toS_ok, seq_nx, seq_rt, seq_bk, seq_ct, tru_bl, Bool.not_true, Bool.not_false, Bool.false_eq_true, Bool.true_eq_false, if_true, if_false, ND.ix_tup, ix_lst, at_0, at_1, at_2, at_3, at_4, ND.len_tup, ND.len_lst, eq_int, eq_bl, op_addI, op_subI, op_ltI, op_leI, op_gtI, op_geI, op_addX_i, op_addX_s, op_addX_l, op_addX_t, op_mulX_i, op_mulX_l, op_isN_non, op_isN_tup, op_isN_lst, op_isN_ins, op_isB, sl_lst, int_int, int_bl, i1_int, i2f_int, src_tup, src_lst, negI, decide_true, decide_false, len, decide_eq_false n0, List.getLast?_nil, clampS]
        · have e0 : xs.getLast? = some (xs.getLast hx) := List.getLast?_eq_some_getLast hx
          rw [e0]
          have a2 := at_mapL (f := D.int) hx
          have n0 : (0 : Int) < (xs.length : Nat) := by
            have := List.length_pos_iff.mpr hx
            omega
          have ix : ixD (.ref r.length) (.int (-1)) (r ++ [.lst (xs.map .int)]) = .ok (.int (xs.getLast hx)) (r ++ [.lst (xs.map .int)]) := by
            rw [ND.ix_ref, get_last]
            show (match atI (xs.map D.int) (-1) with
              | some d => Res.ok d (r ++ [SO.lst (xs.map D.int)])
              | none => .bad) = _
            rw [a2]
          have so : sortedD false [.lst [.int sh.1, .int (xs.getLast hx), .int sh.2]] (r ++ [.lst (xs.map .int)]) = .ok (.lst ((sortI [sh.1, xs.getLast hx, sh.2]).map .int)) (r ++ [.lst (xs.map .int)]) := sorted_ok (ns := [sh.1, xs.getLast hx, sh.2])
          have md := sort_mid (a := sh.1) (x := xs.getLast hx) (b := sh.2) s4.le
          have mx : ixD (.lst ((sortI [sh.1, xs.getLast hx, sh.2]).map .int)) (.int 1) (r ++ [.lst (xs.map .int)]) = .ok (.int (max sh.1 (min sh.2 (xs.getLast hx)))) (r ++ [.lst (xs.map .int)]) := by
            rw [ND.ix_lst, md]
          have h3 : Ok ((3 : Nat) ≤ sizeLine) := show 3 ≤ sizeLine by rw [sizeLine_eq]; decide
          have lst3 : eLst false (aCons (e2 ixD (eVar 4) (eK (.int 0))) (aCons (e2 ixD (eVar 2) (negI (eK (.int 1)))) (aCons (e2 ixD (eVar 4) (eK (.int 1))) (aNil)))) [some (.lst (encs ss)), some (.ref k), some (.ref r.length), some (.tup [.int p.1, .int p.2]), some (.lst [.int sh.1, .int sh.2]), some (.int sh.1), x6] (r ++ [.lst (xs.map .int)]) = .ok (.lst [.int sh.1, .int (xs.getLast hx), .int sh.2]) (r ++ [.lst (xs.map .int)]) := by
            rw [ev_eLst]
            simp only [ev_sSeq, ev_sNil, ev_sIf, ev_sSet, ev_sDrop, ev_sRet, ev_sRetN, ev_sSetIx, ev_sAug, ev_bAnd, ev_bOr, ev_bNot, ev_bYes, ev_tru, ev_toB, ev_e2, ev_eVar, ev_eK, ev_eC, ev_eC0, ev_aCons, ev_aNil, ev_eIf, ev_eAnd, ev_eOr, ev_eNot, ev_eSl, ev_oSome, ev_oNone, ev_eFld, ev_eMeth, ev_eBM, ev_iVal, ev_iR1, ev_iR2, ev_gNm, ev_mkL_f, ev_mkL_t, ev_wipe0, ev_wipe1, ev_eLst0, ev_eTup0, List.getElem?_cons_succ, List.getElem?_cons_zero, List.set_cons_succ, List.set_cons_zero, Res.bind_ok, toS_ok, seq_nx, seq_rt, seq_bk, seq_ct, tru_bl, Bool.not_true, Bool.not_false, Bool.false_eq_true, Bool.true_eq_false, if_true, if_false, ND.ix_tup, ix_lst, at_0, at_1, at_2, at_3, at_4, ND.len_tup, ND.len_lst, eq_int, eq_bl, op_addI, op_subI, op_ltI, op_leI, op_gtI, op_geI, op_addX_i, op_addX_s, op_addX_l, op_addX_t, op_mulX_i, op_mulX_l, op_isN_non, op_isN_tup, op_isN_lst, op_isN_ins, op_isB, sl_lst, int_int, int_bl, i1_int, i2f_int, src_tup, src_lst, negI, decide_true, decide_false, ix, List.length_cons, List.length_nil, Nat.zero_add, Nat.reduceAdd, if_pos h3]
          simp only [l1__law_due_way_2, pairN, enc, ev_sSeq, ev_sIf, ev_toB, ev_e2, ev_eC, ev_aCons, ev_aNil, ev_eVar, ev_eK, List.getElem?_cons_succ, List.getElem?_cons_zero, Res.bind_ok, len, op_gtI, decide_eq_true n0, toS_ok, if_true, ev_sSet, lst3, so, mx, List.set_cons_succ, List.set_cons_zero, seq_nx, clampS]
      obtain ⟨y6, k2⟩ := due_in (r := r) (xs := xs) (at_ := clampS sh xs.getLast?) (lo := p.1) (n := p.2 + 1 - p.1) (c := ((p.2 + 1 : Nat) : Int)) (by omega) (by omega) (by omega) (by omega) (by omega) (some (.lst (encs ss))) (some (.ref k)) (some (enc sh)) x6 0
      refine ⟨_, rfl, _, _, .inl (k1.trans k2), xs ++ List.replicate (p.2 + 1 - p.1) (clampS sh xs.getLast?), p.2 + 1, _, _, _, _, rfl, rfl, s6, by rw [List.length_append, List.length_replicate]; omega, fun ys hy => ?_⟩
      rw [last_rep (by omega)] at hy
      rw [List.append_assoc]
      refine q4 _ ?_
      rw [hdr]
      exact ⟨sh, ys, s4, s5, by rw [s1], hy⟩)
  subst q0 q1
  rw [hpl, List.drop_length] at q4
  have g5 := q4 [] rfl
  rw [List.append_nil] at g5
  refine ⟨xs, g5, ?_⟩
  have e1 : m__law_due_way [.lst (encs ss), .ref k] r = fnEnd false r (y__law_due_way [some (.lst (encs ss)), some (.ref k), none, none, none, none, none] r) := rfl
  have e2 : y__law_due_way [some (.lst (encs ss)), some (.ref k), none, none, none, none, none] r = .rt (.tup (xs.map .int)) (r ++ [.lst (xs.map .int)]) := by
    have hf' : sFor (iVal (eVar 1)) (gNm 3) l1__law_due_way [some (.lst (encs ss)), some (.ref k), some (.ref r.length), none, none, none, none] (r ++ [.lst []]) = _ := hf
    simp only [y__law_due_way, y__law_due_way_1, y__law_due_way_2, ev_sSeq, ev_sNil, ev_sIf, ev_sSet, ev_sDrop, ev_sRet, ev_sRetN, ev_sSetIx, ev_sAug, ev_bAnd, ev_bOr, ev_bNot, ev_bYes, ev_tru, ev_toB, ev_e2, ev_eVar, ev_eK, ev_eC, ev_eC0, ev_aCons, ev_aNil, ev_eIf, ev_eAnd, ev_eOr, ev_eNot, ev_eSl, ev_oSome, ev_oNone, ev_eFld, ev_eMeth, ev_eBM, ev_iVal, ev_iR1, ev_iR2, ev_gNm, ev_mkL_f, ev_mkL_t, ev_wipe0, ev_wipe1, ev_eLst0, ev_eTup0, List.getElem?_cons_succ, List.getElem?_cons_zero, List.set_cons_succ, List.set_cons_zero, Res.bind_ok, toS_ok, seq_nx, seq_rt, seq_bk, seq_ct, tru_bl, Bool.not_true, Bool.not_false, Bool.false_eq_true, Bool.true_eq_false, if_true, if_false, ND.ix_tup, ix_lst, at_0, at_1, at_2, at_3, at_4, ND.len_tup, ND.len_lst, eq_int, eq_bl, op_addI, op_subI, op_ltI, op_leI, op_gtI, op_geI, op_addX_i, op_addX_s, op_addX_l, op_addX_t, op_mulX_i, op_mulX_l, op_isN_non, op_isN_tup, op_isN_lst, op_isN_ins, op_isB, sl_lst, int_int, int_bl, i1_int, i2f_int, src_tup, src_lst, negI, decide_true, decide_false, hf', ND.tup_ref, get_last]
  rw [e1, e2, end_rt_f]
  exact fin_none (r := r) (ex := [.lst (xs.map .int)]) (by show pds (xs.map .int) = true; exact pds_ints xs)
/-! ### lies -/
theorem lies_ok {ss : List Sp2} {xs : List Int} (hl : xs.length = ss.length) (hn : ss.length ≤ 100) (hL : lies ss xs = true) {st : Sto} : m__law_lies [.lst (encs ss), .tup (xs.map .int)] st = .ok (.bl true) st := by
  have e1 : m__law_lies [.lst (encs ss), .tup (xs.map .int)] st = fnEnd false st (y__law_lies [some (.lst (encs ss)), some (.tup (xs.map .int)), none] st) := rfl
  have hle : (encs ss).length = ss.length := by unfold encs; rw [List.length_map]
  have w1 := wholes_ok (xs := xs) (st := st) (n := ss.length) (by omega)
  have h1 : iR1 (eC lenD (aCons (eVar 0) aNil)) [some (.lst (encs ss)), some (.tup (xs.map .int)), none] st = .ok (.fz (rangeD 0 ss.length)) st := by
    simp only [ev_sSeq, ev_sNil, ev_sIf, ev_sSet, ev_sDrop, ev_sRet, ev_sRetN, ev_sSetIx, ev_sAug, ev_bAnd, ev_bOr, ev_bNot, ev_bYes, ev_tru, ev_toB, ev_e2, ev_eVar, ev_eK, ev_eC, ev_eC0, ev_aCons, ev_aNil, ev_eIf, ev_eAnd, ev_eOr, ev_eNot, ev_eSl, ev_oSome, ev_oNone, ev_eFld, ev_eMeth, ev_eBM, ev_iVal, ev_iR1, ev_iR2, ev_gNm, ev_mkL_f, ev_mkL_t, ev_wipe0, ev_wipe1, ev_eLst0, ev_eTup0, List.getElem?_cons_succ, List.getElem?_cons_zero, List.set_cons_succ, List.set_cons_zero, Res.bind_ok, toS_ok, seq_nx, seq_rt, seq_bk, seq_ct, tru_bl, Bool.not_true, Bool.not_false, Bool.false_eq_true, Bool.true_eq_false, if_true, if_false, ND.ix_tup, ix_lst, at_0, at_1, at_2, at_3, at_4, ND.len_tup, ND.len_lst, eq_int, eq_bl, op_addI, op_subI, op_ltI, op_leI, op_gtI, op_geI, op_addX_i, op_addX_s, op_addX_l, op_addX_t, op_mulX_i, op_mulX_l, op_isN_non, op_isN_tup, op_isN_lst, op_isN_ins, op_isB, sl_lst, int_int, int_bl, i1_int, i2f_int, src_tup, src_lst, negI, decide_true, decide_false, hle, rng1_nat (n := ss.length) (st := st) (by omega)]
  obtain ⟨e2, s2, hf, y, q1, q2⟩ := for_allF (g := gNm 2) (body := l1__law_lies) h1 (fun i env s => ∃ y, env = [some (.lst (encs ss)), some (.tup (xs.map .int)), y] ∧ st = s) ⟨none, rfl, rfl⟩ (fun i d env s hd ⟨y, q1, q2⟩ => by
    subst q1 q2
    obtain ⟨rfl, hi⟩ := range_get hd
    have a1 := int_at (xs := xs) (i := i) (by omega)
    have a2 := enc_at (ss := ss) (i := i) hi
    have z1 : (0 : Int) + (i : Int) = (i : Int) := by omega
    rw [z1]
    have q := of_decide_eq_true (List.all_eq_true.mp hL i (List.mem_range.mpr hi))
    rw [List.getD_eq_getElem?_getD, List.getElem?_eq_getElem hi] at q
    have q' : ss[i].1 ≤ gI xs i ∧ gI xs i ≤ ss[i].2 := q
    have n1 : ¬ gI xs i < ss[i].1 := by omega
    have n2 : ¬ ss[i].2 < gI xs i := by omega
    exact ⟨_, rfl, _, _, .inl (by simp only [l1__law_lies, ev_sSeq, ev_sNil, ev_sIf, ev_sSet, ev_sDrop, ev_sRet, ev_sRetN, ev_sSetIx, ev_sAug, ev_bAnd, ev_bOr, ev_bNot, ev_bYes, ev_tru, ev_toB, ev_e2, ev_eVar, ev_eK, ev_eC, ev_eC0, ev_aCons, ev_aNil, ev_eIf, ev_eAnd, ev_eOr, ev_eNot, ev_eSl, ev_oSome, ev_oNone, ev_eFld, ev_eMeth, ev_eBM, ev_iVal, ev_iR1, ev_iR2, ev_gNm, ev_mkL_f, ev_mkL_t, ev_wipe0, ev_wipe1, ev_eLst0, ev_eTup0, List.getElem?_cons_succ, List.getElem?_cons_zero, List.set_cons_succ, List.set_cons_zero, Res.bind_ok, toS_ok, seq_nx, seq_rt, seq_bk, seq_ct, tru_bl, Bool.not_true, Bool.not_false, Bool.false_eq_true, Bool.true_eq_false, if_true, if_false, ND.ix_tup, ix_lst, at_0, at_1, at_2, at_3, at_4, ND.len_tup, ND.len_lst, eq_int, eq_bl, op_addI, op_subI, op_ltI, op_leI, op_gtI, op_geI, op_addX_i, op_addX_s, op_addX_l, op_addX_t, op_mulX_i, op_mulX_l, op_isN_non, op_isN_tup, op_isN_lst, op_isN_ins, op_isB, sl_lst, int_int, int_bl, i1_int, i2f_int, src_tup, src_lst, negI, decide_true, decide_false, a1, a2, decide_eq_false n1, decide_eq_false n2]), some (.int i), rfl, rfl⟩)
  subst q1 q2
  have e2 : y__law_lies [some (.lst (encs ss)), some (.tup (xs.map .int)), none] st = .rt (.bl true) st := by
    simp only [y__law_lies, y__law_lies_1, y__law_lies_2, ev_sSeq, ev_sNil, ev_sIf, ev_sSet, ev_sDrop, ev_sRet, ev_sRetN, ev_sSetIx, ev_sAug, ev_bAnd, ev_bOr, ev_bNot, ev_bYes, ev_tru, ev_toB, ev_e2, ev_eVar, ev_eK, ev_eC, ev_eC0, ev_aCons, ev_aNil, ev_eIf, ev_eAnd, ev_eOr, ev_eNot, ev_eSl, ev_oSome, ev_oNone, ev_eFld, ev_eMeth, ev_eBM, ev_iVal, ev_iR1, ev_iR2, ev_gNm, ev_mkL_f, ev_mkL_t, ev_wipe0, ev_wipe1, ev_eLst0, ev_eTup0, List.getElem?_cons_succ, List.getElem?_cons_zero, List.set_cons_succ, List.set_cons_zero, Res.bind_ok, toS_ok, seq_nx, seq_rt, seq_bk, seq_ct, tru_bl, Bool.not_true, Bool.not_false, Bool.false_eq_true, Bool.true_eq_false, if_true, if_false, ND.ix_tup, ix_lst, at_0, at_1, at_2, at_3, at_4, ND.len_tup, ND.len_lst, eq_int, eq_bl, op_addI, op_subI, op_ltI, op_leI, op_gtI, op_geI, op_addX_i, op_addX_s, op_addX_l, op_addX_t, op_mulX_i, op_mulX_l, op_isN_non, op_isN_tup, op_isN_lst, op_isN_ins, op_isB, sl_lst, int_int, int_bl, i1_int, i2f_int, src_tup, src_lst, negI, decide_true, decide_false, hle, w1, hf]
  rw [e1, e2, end_rt_f]
  exact fin_none0 rfl
theorem bends0_ok {st : Sto} : m_bends [.tup []] st = .ok (.int 0) st := by
  have e1 : m_bends [.tup []] st = fnEnd false st (y_bends [some (.tup []), none] st) := rfl
  have hr : rng2 1 0 st = .ok (.fz []) st := rng2_ok (by decide) (by decide) (by decide) (by decide)
  have e2 : y_bends [some (.tup []), none] st = .rt (.int 0) st := by
    simp [y_bends, hr, compR]
  rw [e1, e2, end_rt_f]
  exact fin_none0 rfl
end K75
namespace K75
open PySem L2 ND
/-! ### rows of stops -/
theorem row_step {b : SO} {k : Nat} (hb : BagOk b k) (hk : k < 2 ^ 55) {s : Sp2} (hs : Sp s) {xs : List Int} (hx : xs.length ≤ 1000) {x1 : Option D} {r : Sto} (x4 x5 : Option D) :
    ∃ (at_ : Int) (b' : SO) (y4 y5 : Option D), BagOk b' (k + 2) ∧ (s.1 ≤ at_ ∧ at_ ≤ s.2) ∧ l1__law_row [some (.ref 0), x1, some (.ref (r.length + 1)), some (enc s), x4, x5] (b :: (r ++ [.lst (xs.map .int)])) =
      .nx [some (.ref 0), x1, some (.ref (r.length + 1)), some (enc s), y4, y5] (b' :: (r ++ [.lst ((xs ++ [at_]).map .int)])) := by
  obtain ⟨h1, h2, h3⟩ := hs
  obtain ⟨w, b1, hb1, l1, u1, e1⟩ := draw_ok hb (by omega) (n := 8) (by decide) (by decide)
  have ap : ∀ (b : SO) (a : Int), appendD (.ref (r.length + 1)) [.int a] (b :: (r ++ [.lst (xs.map .int)])) = .ok .non (b :: (r ++ [.lst ((xs ++ [a]).map .int)])) := fun b a => by
    rw [app_last (by rw [List.length_map]; omega), List.map_append]
    rfl
  have go : ∀ (b : SO) (a : Int), l1__law_row_3 [some (.ref 0), x1, some (.ref (r.length + 1)), some (enc s), some (.int w), some (.int a)] (b :: (r ++ [.lst (xs.map .int)])) = .nx [some (.ref 0), x1, some (.ref (r.length + 1)), some (enc s), some (.int w), some (.int a)] (b :: (r ++ [.lst ((xs ++ [a]).map .int)])) := fun b a => by
    simp only [l1__law_row_3, ev_sSeq, ev_sNil, ev_sIf, ev_sSet, ev_sDrop, ev_sRet, ev_sRetN, ev_sSetIx, ev_sAug, ev_bAnd, ev_bOr, ev_bNot, ev_bYes, ev_tru, ev_toB, ev_e2, ev_eVar, ev_eK, ev_eC, ev_eC0, ev_aCons, ev_aNil, ev_eIf, ev_eAnd, ev_eOr, ev_eNot, ev_eSl, ev_oSome, ev_oNone, ev_eFld, ev_eMeth, ev_eBM, ev_iVal, ev_iR1, ev_iR2, ev_gNm, ev_mkL_f, ev_mkL_t, ev_wipe0, ev_wipe1, ev_eLst0, ev_eTup0, List.getElem?_cons_succ, List.getElem?_cons_zero, List.set_cons_succ, List.set_cons_zero, Res.bind_ok, toS_ok, seq_nx, seq_rt, seq_bk, seq_ct, tru_bl, Bool.not_true, Bool.not_false, Bool.false_eq_true, Bool.true_eq_false, if_true, if_false, ND.ix_tup, ix_lst, at_0, at_1, at_2, at_3, at_4, ND.len_tup, ND.len_lst, eq_int, eq_bl, op_addI, op_subI, op_ltI, op_leI, op_gtI, op_geI, op_addX_i, op_addX_s, op_addX_l, op_addX_t, op_mulX_i, op_mulX_l, op_isN_non, op_isN_tup, op_isN_lst, op_isN_ins, op_isB, sl_lst, int_int, int_bl, i1_int, i2f_int, src_tup, src_lst, negI, decide_true, decide_false, sq_ref, List.getElem?_cons_succ, get_last, ap]
  have st1 : ∀ st : Sto, l1__law_row [some (.ref 0), x1, some (.ref (r.length + 1)), some (enc s), x4, x5] (b :: st) = l1__law_row_2 [some (.ref 0), x1, some (.ref (r.length + 1)), some (enc s), some (.int w), some (.int s.1)] (b1 :: st) := fun st => by
    simp only [l1__law_row, l1__law_row_1, enc, ev_sSeq, ev_sNil, ev_sIf, ev_sSet, ev_sDrop, ev_sRet, ev_sRetN, ev_sSetIx, ev_sAug, ev_bAnd, ev_bOr, ev_bNot, ev_bYes, ev_tru, ev_toB, ev_e2, ev_eVar, ev_eK, ev_eC, ev_eC0, ev_aCons, ev_aNil, ev_eIf, ev_eAnd, ev_eOr, ev_eNot, ev_eSl, ev_oSome, ev_oNone, ev_eFld, ev_eMeth, ev_eBM, ev_iVal, ev_iR1, ev_iR2, ev_gNm, ev_mkL_f, ev_mkL_t, ev_wipe0, ev_wipe1, ev_eLst0, ev_eTup0, List.getElem?_cons_succ, List.getElem?_cons_zero, List.set_cons_succ, List.set_cons_zero, Res.bind_ok, toS_ok, seq_nx, seq_rt, seq_bk, seq_ct, tru_bl, Bool.not_true, Bool.not_false, Bool.false_eq_true, Bool.true_eq_false, if_true, if_false, ND.ix_tup, ix_lst, at_0, at_1, at_2, at_3, at_4, ND.len_tup, ND.len_lst, eq_int, eq_bl, op_addI, op_subI, op_ltI, op_leI, op_gtI, op_geI, op_addX_i, op_addX_s, op_addX_l, op_addX_t, op_mulX_i, op_mulX_l, op_isN_non, op_isN_tup, op_isN_lst, op_isN_ins, op_isB, sl_lst, int_int, int_bl, i1_int, i2f_int, src_tup, src_lst, negI, decide_true, decide_false, e1]
  rw [st1]
  have len : ∀ b : SO, lenD [.ref (r.length + 1)] (b :: (r ++ [.lst (xs.map .int)])) = .ok (.int xs.length) (b :: (r ++ [.lst (xs.map .int)])) := fun b => by
    simp only [len_ref, List.getElem?_cons_succ, get_last, List.length_map]
  by_cases w1 : w = 1
  · refine ⟨s.2, b1, some (.int w), some (.int s.2), hb1.mono (by omega), by omega, ?_⟩
    rw [← go]
    simp only [l1__law_row_2, enc, ev_sSeq, ev_sNil, ev_sIf, ev_sSet, ev_sDrop, ev_sRet, ev_sRetN, ev_sSetIx, ev_sAug, ev_bAnd, ev_bOr, ev_bNot, ev_bYes, ev_tru, ev_toB, ev_e2, ev_eVar, ev_eK, ev_eC, ev_eC0, ev_aCons, ev_aNil, ev_eIf, ev_eAnd, ev_eOr, ev_eNot, ev_eSl, ev_oSome, ev_oNone, ev_eFld, ev_eMeth, ev_eBM, ev_iVal, ev_iR1, ev_iR2, ev_gNm, ev_mkL_f, ev_mkL_t, ev_wipe0, ev_wipe1, ev_eLst0, ev_eTup0, List.getElem?_cons_succ, List.getElem?_cons_zero, List.set_cons_succ, List.set_cons_zero, Res.bind_ok, toS_ok, seq_nx, seq_rt, seq_bk, seq_ct, tru_bl, Bool.not_true, Bool.not_false, Bool.false_eq_true, Bool.true_eq_false, if_true, if_false, ND.ix_tup, ix_lst, at_0, at_1, at_2, at_3, at_4, ND.len_tup, ND.len_lst, eq_int, eq_bl, op_addI, op_subI, op_ltI, op_leI, op_gtI, op_geI, op_addX_i, op_addX_s, op_addX_l, op_addX_t, op_mulX_i, op_mulX_l, op_isN_non, op_isN_tup, op_isN_lst, op_isN_ins, op_isB, sl_lst, int_int, int_bl, i1_int, i2f_int, src_tup, src_lst, negI, decide_true, decide_false, decide_eq_true w1]
  by_cases w2 : w = 2
  · refine ⟨(s.1 + s.2) / 2, b1, some (.int w), some (.int ((s.1 + s.2) / 2)), hb1.mono (by omega), by omega, ?_⟩
    rw [← go]
    have dv : ∀ st : Sto, divI (.int (s.1 + s.2)) (.int 2) st = .ok (.int ((s.1 + s.2) / 2)) st := fun st => op_divS (by decide) (by decide)
    simp only [l1__law_row_2, enc, ev_sSeq, ev_sNil, ev_sIf, ev_sSet, ev_sDrop, ev_sRet, ev_sRetN, ev_sSetIx, ev_sAug, ev_bAnd, ev_bOr, ev_bNot, ev_bYes, ev_tru, ev_toB, ev_e2, ev_eVar, ev_eK, ev_eC, ev_eC0, ev_aCons, ev_aNil, ev_eIf, ev_eAnd, ev_eOr, ev_eNot, ev_eSl, ev_oSome, ev_oNone, ev_eFld, ev_eMeth, ev_eBM, ev_iVal, ev_iR1, ev_iR2, ev_gNm, ev_mkL_f, ev_mkL_t, ev_wipe0, ev_wipe1, ev_eLst0, ev_eTup0, List.getElem?_cons_succ, List.getElem?_cons_zero, List.set_cons_succ, List.set_cons_zero, Res.bind_ok, toS_ok, seq_nx, seq_rt, seq_bk, seq_ct, tru_bl, Bool.not_true, Bool.not_false, Bool.false_eq_true, Bool.true_eq_false, if_true, if_false, ND.ix_tup, ix_lst, at_0, at_1, at_2, at_3, at_4, ND.len_tup, ND.len_lst, eq_int, eq_bl, op_addI, op_subI, op_ltI, op_leI, op_gtI, op_geI, op_addX_i, op_addX_s, op_addX_l, op_addX_t, op_mulX_i, op_mulX_l, op_isN_non, op_isN_tup, op_isN_lst, op_isN_ins, op_isB, sl_lst, int_int, int_bl, i1_int, i2f_int, src_tup, src_lst, negI, decide_true, decide_false, decide_eq_false w1, decide_eq_true w2, dv]
  by_cases w3 : w = 3
  · obtain ⟨d, b2, hb2, l2, u2, e2⟩ := draw_ok hb1 (by omega) (n := s.2 - s.1 + 1) (by omega) (by omega)
    refine ⟨s.1 + d, b2, some (.int w), some (.int (s.1 + d)), hb2, by omega, ?_⟩
    rw [← go]
    simp only [l1__law_row_2, enc, ev_sSeq, ev_sNil, ev_sIf, ev_sSet, ev_sDrop, ev_sRet, ev_sRetN, ev_sSetIx, ev_sAug, ev_bAnd, ev_bOr, ev_bNot, ev_bYes, ev_tru, ev_toB, ev_e2, ev_eVar, ev_eK, ev_eC, ev_eC0, ev_aCons, ev_aNil, ev_eIf, ev_eAnd, ev_eOr, ev_eNot, ev_eSl, ev_oSome, ev_oNone, ev_eFld, ev_eMeth, ev_eBM, ev_iVal, ev_iR1, ev_iR2, ev_gNm, ev_mkL_f, ev_mkL_t, ev_wipe0, ev_wipe1, ev_eLst0, ev_eTup0, List.getElem?_cons_succ, List.getElem?_cons_zero, List.set_cons_succ, List.set_cons_zero, Res.bind_ok, toS_ok, seq_nx, seq_rt, seq_bk, seq_ct, tru_bl, Bool.not_true, Bool.not_false, Bool.false_eq_true, Bool.true_eq_false, if_true, if_false, ND.ix_tup, ix_lst, at_0, at_1, at_2, at_3, at_4, ND.len_tup, ND.len_lst, eq_int, eq_bl, op_addI, op_subI, op_ltI, op_leI, op_gtI, op_geI, op_addX_i, op_addX_s, op_addX_l, op_addX_t, op_mulX_i, op_mulX_l, op_isN_non, op_isN_tup, op_isN_lst, op_isN_ins, op_isB, sl_lst, int_int, int_bl, i1_int, i2f_int, src_tup, src_lst, negI, decide_true, decide_false, decide_eq_false w1, decide_eq_false w2, decide_eq_true w3, e2]
  by_cases w4 : 4 < w ∧ xs ≠ []
  · obtain ⟨w4, hx0⟩ := w4
    have a2 := at_mapL (f := D.int) hx0
    have n0 : (0 : Int) < (xs.length : Nat) := by
      have := List.length_pos_iff.mpr hx0
      omega
    have ix : ixD (.ref (r.length + 1)) (.int (-1)) (b1 :: (r ++ [.lst (xs.map .int)])) = .ok (.int (xs.getLast hx0)) (b1 :: (r ++ [.lst (xs.map .int)])) := by
      rw [ND.ix_ref, List.getElem?_cons_succ, get_last]
      show (match atI (xs.map D.int) (-1) with
        | some d => Res.ok d (b1 :: (r ++ [SO.lst (xs.map D.int)]))
        | none => .bad) = _
      rw [a2]
    have z : s.1 ≤ maxI s.1 (minI (xs.getLast hx0) s.2) ∧ maxI s.1 (minI (xs.getLast hx0) s.2) ≤ s.2 := by
      rw [maxI_eq, minI_eq]
      omega
    refine ⟨maxI s.1 (minI (xs.getLast hx0) s.2), b1, some (.int w), some (.int (maxI s.1 (minI (xs.getLast hx0) s.2))), hb1.mono (by omega), z, ?_⟩
    rw [← go]
    simp only [l1__law_row_2, enc, ev_sSeq, ev_sNil, ev_sIf, ev_sSet, ev_sDrop, ev_sRet, ev_sRetN, ev_sSetIx, ev_sAug, ev_bAnd, ev_bOr, ev_bNot, ev_bYes, ev_tru, ev_toB, ev_e2, ev_eVar, ev_eK, ev_eC, ev_eC0, ev_aCons, ev_aNil, ev_eIf, ev_eAnd, ev_eOr, ev_eNot, ev_eSl, ev_oSome, ev_oNone, ev_eFld, ev_eMeth, ev_eBM, ev_iVal, ev_iR1, ev_iR2, ev_gNm, ev_mkL_f, ev_mkL_t, ev_wipe0, ev_wipe1, ev_eLst0, ev_eTup0, List.getElem?_cons_succ, List.getElem?_cons_zero, List.set_cons_succ, List.set_cons_zero, Res.bind_ok, toS_ok, seq_nx, seq_rt, seq_bk, seq_ct, tru_bl, Bool.not_true, Bool.not_false, Bool.false_eq_true, Bool.true_eq_false, if_true, if_false, ND.ix_tup, ix_lst, at_0, at_1, at_2, at_3, at_4, ND.len_tup, ND.len_lst, eq_int, eq_bl, op_addI, op_subI, op_ltI, op_leI, op_gtI, op_geI, op_addX_i, op_addX_s, op_addX_l, op_addX_t, op_mulX_i, op_mulX_l, op_isN_non, op_isN_tup, op_isN_lst, op_isN_ins, op_isB, sl_lst, int_int, int_bl, i1_int, i2f_int, src_tup, src_lst, negI, decide_true, decide_false, decide_eq_false w1, decide_eq_false w2, decide_eq_false w3, decide_eq_true w4, len, decide_eq_true n0, ix]
  · refine ⟨s.1, b1, some (.int w), some (.int s.1), hb1.mono (by omega), by omega, ?_⟩
    rw [← go]
    by_cases w5 : 4 < w
    · have hx0 : xs = [] := Classical.byContradiction fun h => w4 ⟨w5, h⟩
      subst hx0
      have n0 : ¬ ((0 : Int) < (([] : List Int).length : Nat)) := by simp
      simp only [l1__law_row_2, enc, ev_sSeq, ev_sNil, ev_sIf, ev_sSet, ev_sDrop, ev_sRet, ev_sRetN, ev_sSetIx, ev_sAug, ev_bAnd, ev_bOr, ev_bNot, ev_bYes, ev_tru, ev_toB, ev_e2, ev_eVar, ev_eK, ev_eC, ev_eC0, ev_aCons, ev_aNil, ev_eIf, ev_eAnd, ev_eOr, ev_eNot, ev_eSl, ev_oSome, ev_oNone, ev_eFld, ev_eMeth, ev_eBM, ev_iVal, ev_iR1, ev_iR2, ev_gNm, ev_mkL_f, ev_mkL_t, ev_wipe0, ev_wipe1, ev_eLst0, ev_eTup0, List.getElem?_cons_succ, List.getElem?_cons_zero, List.set_cons_succ, List.set_cons_zero, Res.bind_ok, toS_ok, seq_nx, seq_rt, seq_bk, seq_ct, tru_bl, Bool.not_true, Bool.not_false, Bool.false_eq_true, Bool.true_eq_false, if_true, if_false, ND.ix_tup, ix_lst, at_0, at_1, at_2, at_3, at_4, ND.len_tup, ND.len_lst, eq_int, eq_bl, op_addI, op_subI, op_ltI, op_leI, op_gtI, op_geI, op_addX_i, op_addX_s, op_addX_l, op_addX_t, op_mulX_i, op_mulX_l, op_isN_non, op_isN_tup, op_isN_lst, op_isN_ins, op_isB, sl_lst, int_int, int_bl, i1_int, i2f_int, src_tup, src_lst, negI, decide_true, decide_false, decide_eq_false w1, decide_eq_false w2, decide_eq_false w3, decide_eq_true w5, len, decide_eq_false n0]
    · simp only [l1__law_row_2, enc, ev_sSeq, ev_sNil, ev_sIf, ev_sSet, ev_sDrop, ev_sRet, ev_sRetN, ev_sSetIx, ev_sAug, ev_bAnd, ev_bOr, ev_bNot, ev_bYes, ev_tru, ev_toB, ev_e2, ev_eVar, ev_eK, ev_eC, ev_eC0, ev_aCons, ev_aNil, ev_eIf, ev_eAnd, ev_eOr, ev_eNot, ev_eSl, ev_oSome, ev_oNone, ev_eFld, ev_eMeth, ev_eBM, ev_iVal, ev_iR1, ev_iR2, ev_gNm, ev_mkL_f, ev_mkL_t, ev_wipe0, ev_wipe1, ev_eLst0, ev_eTup0, List.getElem?_cons_succ, List.getElem?_cons_zero, List.set_cons_succ, List.set_cons_zero, Res.bind_ok, toS_ok, seq_nx, seq_rt, seq_bk, seq_ct, tru_bl, Bool.not_true, Bool.not_false, Bool.false_eq_true, Bool.true_eq_false, if_true, if_false, ND.ix_tup, ix_lst, at_0, at_1, at_2, at_3, at_4, ND.len_tup, ND.len_lst, eq_int, eq_bl, op_addI, op_subI, op_ltI, op_leI, op_gtI, op_geI, op_addX_i, op_addX_s, op_addX_l, op_addX_t, op_mulX_i, op_mulX_l, op_isN_non, op_isN_tup, op_isN_lst, op_isN_ins, op_isB, sl_lst, int_int, int_bl, i1_int, i2f_int, src_tup, src_lst, negI, decide_true, decide_false, decide_eq_false w1, decide_eq_false w2, decide_eq_false w3, decide_eq_false w5]
def lieS (ss : List Sp2) (xs : List Int) : Prop := ∀ j, j < xs.length → (gS ss j).1 ≤ gI xs j ∧ gI xs j ≤ (gS ss j).2
theorem lies_iff {ss : List Sp2} {xs : List Int} (hl : xs.length = ss.length) : lies ss xs = true ↔ lieS ss xs := by
  unfold lies lieS
  rw [List.all_eq_true]
  constructor
  · intro h j hj
    exact of_decide_eq_true (h j (List.mem_range.mpr (by omega)))
  · intro h j hj
    exact decide_eq_true (h j (by have := List.mem_range.mp hj; omega))
theorem row_ok {b : SO} {k : Nat} (hb : BagOk b k) (hk : k < 2 ^ 50) {ss : List Sp2} (hn : ss.length ≤ 100) (hs : ∀ s ∈ ss, Sp s) (r : Sto) : ∃ (xs : List Int) (b' : SO), BagOk b' (k + 200) ∧ xs.length = ss.length ∧ lies ss xs = true ∧ m__law_row [.ref 0, .lst (encs ss)] (b :: r) = .ok (.lst (xs.map .int)) (b' :: r) := by
  have h1 : iVal (eVar 1) [some (.ref 0), some (.lst (encs ss)), some (.ref (r.length + 1)), none, none, none] (b :: (r ++ [.lst (([] : List Int).map .int)])) = .ok (.fz (encs ss)) (b :: (r ++ [.lst (([] : List Int).map .int)])) := rfl
  obtain ⟨e2, s2, hf, xs, b', x3, x4, x5, g0, g1, g2, g3, g4⟩ := for_allF (g := gNm 3) (body := l1__law_row) h1
    (fun i env s => ∃ (xs : List Int) (b' : SO) (x3 x4 x5 : Option D), env = [some (.ref 0), some (.lst (encs ss)), some (.ref (r.length + 1)), x3, x4, x5] ∧ s = b' :: (r ++ [.lst (xs.map .int)]) ∧ BagOk b' (k + 2 * i) ∧ xs.length = i ∧ lieS ss xs)
    ⟨[], b, none, none, none, rfl, rfl, hb, rfl, fun j hj => absurd hj (by simp)⟩ (fun i d env s hd ⟨xs, b', x3, x4, x5, g0, g1, g2, g3, g4⟩ => by
      subst g0 g1
      obtain ⟨s, hsi, rfl, hi⟩ := get_map hd
      have hm : s ∈ ss := List.mem_of_getElem? hsi
      obtain ⟨at_, b2, y4, y5, hb2, ha, e⟩ := row_step g2 (by omega) (hs s hm) (xs := xs) (by omega) (x1 := some (.lst (encs ss))) (r := r) x4 x5
      refine ⟨_, rfl, _, _, .inl e, xs ++ [at_], b2, some (enc s), y4, y5, rfl, rfl, hb2.mono (by omega), by rw [List.length_append, g3]; rfl, fun j hj => ?_⟩
      rw [gI_app]
      by_cases h : j < xs.length
      · rw [if_pos h]
        exact g4 j h
      · rw [if_neg h]
        have hj2 : j = i := by
          rw [List.length_append] at hj
          simp at hj
          omega
        have e3 : gS ss j = s := by
          unfold gS
          rw [hj2, List.getD_eq_getElem?_getD, hsi]
          rfl
        have e4 : gI [at_] (j - xs.length) = at_ := by rw [show j - xs.length = 0 by omega]; rfl
        rw [e3, e4]
        exact ha)
  subst g0 g1
  have hle : (encs ss).length = ss.length := by unfold encs; rw [List.length_map]
  rw [hle] at g2 g3
  refine ⟨xs, b', g2.mono (by omega), g3, (lies_iff g3).mpr g4, ?_⟩
  have e1 : m__law_row [.ref 0, .lst (encs ss)] (b :: r) = fnEnd false (b :: r) (y__law_row [some (.ref 0), some (.lst (encs ss)), none, none, none, none] (b :: r)) := rfl
  have e2 : y__law_row [some (.ref 0), some (.lst (encs ss)), none, none, none, none] (b :: r) = .rt (.ref (r.length + 1)) (b' :: (r ++ [.lst (xs.map .int)])) := by
    have hf' : sFor (iVal (eVar 1)) (gNm 3) l1__law_row [some (.ref 0), some (.lst (encs ss)), some (.ref (r.length + 1)), none, none, none] (b :: (r ++ [.lst []])) = _ := hf
    simp only [y__law_row, y__law_row_1, y__law_row_2, ev_sSeq, ev_sNil, ev_sIf, ev_sSet, ev_sDrop, ev_sRet, ev_sRetN, ev_sSetIx, ev_sAug, ev_bAnd, ev_bOr, ev_bNot, ev_bYes, ev_tru, ev_toB, ev_e2, ev_eVar, ev_eK, ev_eC, ev_eC0, ev_aCons, ev_aNil, ev_eIf, ev_eAnd, ev_eOr, ev_eNot, ev_eSl, ev_oSome, ev_oNone, ev_eFld, ev_eMeth, ev_eBM, ev_iVal, ev_iR1, ev_iR2, ev_gNm, ev_mkL_f, ev_mkL_t, ev_wipe0, ev_wipe1, ev_eLst0, ev_eTup0, List.getElem?_cons_succ, List.getElem?_cons_zero, List.set_cons_succ, List.set_cons_zero, Res.bind_ok, toS_ok, seq_nx, seq_rt, seq_bk, seq_ct, tru_bl, Bool.not_true, Bool.not_false, Bool.false_eq_true, Bool.true_eq_false, if_true, if_false, ND.ix_tup, ix_lst, at_0, at_1, at_2, at_3, at_4, ND.len_tup, ND.len_lst, eq_int, eq_bl, op_addI, op_subI, op_ltI, op_leI, op_gtI, op_geI, op_addX_i, op_addX_s, op_addX_l, op_addX_t, op_mulX_i, op_mulX_l, op_isN_non, op_isN_tup, op_isN_lst, op_isN_ins, op_isB, sl_lst, int_int, int_bl, i1_int, i2f_int, src_tup, src_lst, negI, decide_true, decide_false, List.length_cons, List.cons_append, hf']
  rw [e1, e2, end_rt_f]
  exact fin_bag_new (b := b) (b' := b') (r := r) (ex := [.lst (xs.map .int)]) (j := 0) g2.pd rfl (pds_ints xs)
/-! ### how few bends there must be -/
def cntB (xs : List Int) (a n : Nat) : Nat := ((List.range n).filter fun k => bend xs (a + k)).length
theorem cntB_add (xs : List Int) (a : Nat) : ∀ n m, cntB xs a (n + m) = cntB xs a n + cntB xs (a + n) m
  | n, 0 => rfl
  | n, m + 1 => by
    have ih := cntB_add xs a n m
    have s : ∀ a n, cntB xs a (n + 1) = cntB xs a n + (if bend xs (a + n) = true then 1 else 0) := fun a n => by
      unfold cntB
      rw [List.range_succ, List.filter_append, List.length_append]
      congr 1
      by_cases h : bend xs (a + n) = true
      · rw [if_pos h, List.filter_cons_of_pos (p := fun k => bend xs (a + k)) h]
        rfl
      · rw [if_neg h, List.filter_cons_of_neg (p := fun k => bend xs (a + k)) h]
        rfl
    rw [← Nat.add_assoc, s, s, ih, Nat.add_assoc, Nat.add_assoc]
theorem no_bend (xs : List Int) (a : Nat) : ∀ n, cntB xs a n = 0 → gI xs a = gI xs (a + n)
  | 0, _ => rfl
  | n + 1, h => by
    rw [cntB_add] at h
    have ih := no_bend xs a n (by omega)
    have h2 : cntB xs (a + n) 1 = 0 := by omega
    have h3 : bend xs (a + n) = false := by
      cases hb : bend xs (a + n) with
      | false => rfl
      | true =>
        unfold cntB at h2
        rw [show List.range 1 = [0] from rfl, List.filter_cons_of_pos (by rw [Nat.add_zero]; exact hb)] at h2
        simp at h2
    have h4 := of_decide_eq_false h3
    rw [ih]
    exact Classical.byContradiction fun h => h4 h
theorem least_bends {ss : List Sp2} (hv : Vd ss) {xs : List Int} (hl : xs.length = ss.length) (li : lieS ss xs) : ∀ (rs : List (Nat × Nat)) (p : Nat × Nat) (i : Nat), Segs ss i (p :: rs) → rs.length ≤ cntB xs i (ss.length - 1 - i)
  | [], _, _, _ => Nat.zero_le _
  | q :: rs, p, i, ⟨h1, h2, h3, ⟨sh, s1, s2⟩, h4⟩ => by
    have ih := least_bends hv hl li rs q (p.2 + 1) h4
    have hlt : p.2 + 1 < ss.length := by
      obtain ⟨g1, g2, g3, _⟩ := h4
      omega
    obtain ⟨j, j1, j2, j3⟩ := blocker (f := i) s1 (s2 hlt) (hv.at hlt)
    rw [over_isNone] at j3
    have a1 := li j (by omega)
    have a2 := li (p.2 + 1) (by omega)
    have ne : gI xs j ≠ gI xs (p.2 + 1) := by omega
    have sp : ss.length - 1 - i = (p.2 + 1 - i) + (ss.length - 1 - (p.2 + 1)) := by omega
    rw [sp, cntB_add, show i + (p.2 + 1 - i) = p.2 + 1 by omega]
    have one : 1 ≤ cntB xs i (p.2 + 1 - i) := by
      rw [show p.2 + 1 - i = (j - i) + (p.2 + 1 - j) by omega, cntB_add, show i + (j - i) = j by omega]
      have : cntB xs j (p.2 + 1 - j) ≠ 0 := fun z => by
        have := no_bend xs j _ z
        rw [show j + (p.2 + 1 - j) = p.2 + 1 by omega] at this
        exact ne this
      omega
    show rs.length + 1 ≤ _
    omega
theorem cntB_all (xs : List Int) : cntB xs 0 (xs.length - 1) = bendsN xs := by
  unfold cntB bendsN
  congr 2
  funext k
  rw [Nat.zero_add]
theorem runs_pos {ss : List Sp2} (h0 : 0 < ss.length) : 0 < (runsL ss).length := by
  obtain ⟨s, rest, rfl⟩ := List.exists_cons_of_length_pos h0
  have : ∀ (rest : List Sp2) (f : Nat) (sh : Sp2) (k : Nat), 0 < (runsG f sh k rest).length := by
    intro rest
    induction rest with
    | nil => intro f sh k; exact Nat.one_pos
    | cons t rest ih =>
      intro f sh k
      unfold runsG
      cases over sh t with
      | none => exact Nat.succ_pos _
      | some u => exact ih _ _ _
  exact this rest 0 s 1
theorem least_ok {ss : List Sp2} (hv : Vd ss) (h0 : 0 < ss.length) {xs : List Int} (hl : xs.length = ss.length) (li : lies ss xs = true) : (runsL ss).length ≤ bendsN xs + 1 := by
  have sg := segs_runs h0 hv
  cases hr : runsL ss with
  | nil => simp
  | cons p rs =>
    rw [hr] at sg
    have := least_bends hv hl ((lies_iff hl).mp li) rs p 0 sg
    rw [show ss.length - 1 - 0 = xs.length - 1 by omega, cntB_all] at this
    show rs.length + 1 ≤ _
    omega
theorem way_bends {ss : List Sp2} (hv : Vd ss) (h0 : 0 < ss.length) {xs : List Int} (st : Stops ss 0 none (runsL ss) xs) : bendsN xs + 1 = (runsL ss).length := by
  have sg := segs_runs h0 hv
  cases hr : runsL ss with
  | nil =>
    have := runs_pos h0
    rw [hr] at this
    simp at this
  | cons p rs =>
    rw [hr] at sg st
    rw [bendsN_R, stops_bend rs p 0 none xs sg st]
    rfl
/-! ### backward -/
theorem gI_rev {xs : List Int} {j : Nat} (h : j < xs.length) : gI xs.reverse j = gI xs (xs.length - 1 - j) := by
  unfold gI
  rw [List.getD_eq_getElem?_getD, List.getD_eq_getElem?_getD, List.getElem?_reverse h]
theorem gS_rev {ss : List Sp2} {j : Nat} (h : j < ss.length) : gS ss.reverse j = gS ss (ss.length - 1 - j) := by
  unfold gS
  rw [List.getD_eq_getElem?_getD, List.getD_eq_getElem?_getD, List.getElem?_reverse h]
theorem lieS_rev {ss : List Sp2} {xs : List Int} (hl : xs.length = ss.length) (h : lieS ss xs) : lieS ss.reverse xs.reverse := by
  intro j hj
  rw [List.length_reverse] at hj
  rw [gI_rev hj, gS_rev (by omega), hl]
  exact h _ (by omega)
theorem bendsN_rev (xs : List Int) : bendsN xs.reverse = bendsN xs := by
  unfold bendsN
  rw [List.length_reverse]
  have e : (List.range (xs.length - 1)).filter (bend xs.reverse) = (List.range (xs.length - 1)).filter (fun k => bend xs (xs.length - 1 - 1 - k)) := by
    refine List.filter_congr fun k hk => ?_
    have hk := List.mem_range.mp hk
    unfold bend
    rw [gI_rev (by omega), gI_rev (by omega), show xs.length - 1 - k = (xs.length - 1 - 1 - k) + 1 by omega, show xs.length - 1 - (k + 1) = xs.length - 1 - 1 - k by omega]
    exact decide_eq_decide.mpr ⟨fun z e => z e.symm, fun z e => z e.symm⟩
  rw [e]
  have f := List.filter_map (f := fun k => xs.length - 1 - 1 - k) (l := List.range (xs.length - 1)) (p := bend xs)
  rw [PySem.W.krv_range, List.filter_reverse] at f
  have g := congrArg List.length f
  rw [List.length_reverse, List.length_map] at g
  rw [g]
  rfl
theorem vd_rev {ss : List Sp2} (h : Vd ss) : Vd ss.reverse := fun s hs => h s (List.mem_reverse.mp hs)
theorem runs_rev_le {ss : List Sp2} (hv : Vd ss) (h0 : 0 < ss.length) {xs : List Int} (hl : xs.length = ss.length) (st : Stops ss 0 none (runsL ss) xs) : (runsL ss.reverse).length ≤ (runsL ss).length := by
  have li := (lies_iff hl).mp (lies_of (segs_runs h0 hv) st)
  have a := least_ok (vd_rev hv) (by rw [List.length_reverse]; exact h0) (xs := xs.reverse) (by rw [List.length_reverse, List.length_reverse]; exact hl) ((lies_iff (by rw [List.length_reverse, List.length_reverse]; exact hl)).mpr (lieS_rev hl li))
  rw [bendsN_rev] at a
  rw [← way_bends hv h0 st]
  exact a
end K75
namespace K75
open PySem L2 ND
/-! ### the fewest bends, by standing on lows -/
def stepT (sp : Sp2) (best : Int) (n : Nat) (told v : Int) : Int :=
  if sp.1 ≤ v ∧ v ≤ sp.2 then (if 0 ≤ told then min (best + (if 0 < n then 1 else 0)) told else best + (if 0 < n then 1 else 0)) else -1
/-- what may be read of a list of ints, in all later stores -/
def Sees (d : D) (T : List Int) (st : Sto) : Prop := ∀ (ex : Sto) (k : Nat), k < T.length → ixD d (.int (k : Int)) (st ++ ex) = .ok (.int (gI T k)) (st ++ ex)
theorem few_in {ss : List Sp2} {vs T : List Int} {td : D} {best : Int} {n : Nat} (hn : n < ss.length) (hv : vs.length ≤ 1000) (hT : T.length = vs.length) {r : Sto} (sees : Sees td T r) (x6 x7 x8 x9 : Option D) :
    ∃ y6 y7, sFor (iR1 (eC lenD (aCons (eVar 1) (aNil)))) (gNm 6) l2__law_fewest [some (.lst (encs ss)), some (.lst (vs.map .int)), some td, some (.int best), some (.int n), some (.ref r.length), x6, x7, x8, x9] (r ++ [.lst []]) =
      .nx [some (.lst (encs ss)), some (.lst (vs.map .int)), some td, some (.int best), some (.int n), some (.ref r.length), y6, y7, x8, x9] (r ++ [.lst (((List.range vs.length).map fun i => stepT (gS ss n) best n (gI T i) (gI vs i)).map .int)]) := by
  have h1 : iR1 (eC lenD (aCons (eVar 1) (aNil))) [some (.lst (encs ss)), some (.lst (vs.map .int)), some td, some (.int best), some (.int n), some (.ref r.length), x6, x7, x8, x9] (r ++ [.lst []]) = .ok (.fz (rangeD 0 vs.length)) (r ++ [.lst []]) := by
    simp only [ev_sSeq, ev_sNil, ev_sIf, ev_sSet, ev_sDrop, ev_sRet, ev_sRetN, ev_sSetIx, ev_sAug, ev_bAnd, ev_bOr, ev_bNot, ev_bYes, ev_tru, ev_toB, ev_e2, ev_eVar, ev_eK, ev_eC, ev_eC0, ev_aCons, ev_aNil, ev_eIf, ev_eAnd, ev_eOr, ev_eNot, ev_eSl, ev_oSome, ev_oNone, ev_eFld, ev_eMeth, ev_eBM, ev_iVal, ev_iR1, ev_iR2, ev_gNm, ev_mkL_f, ev_mkL_t, ev_wipe0, ev_wipe1, ev_eLst0, ev_eTup0, List.getElem?_cons_succ, List.getElem?_cons_zero, List.set_cons_succ, List.set_cons_zero, Res.bind_ok, toS_ok, seq_nx, seq_rt, seq_bk, seq_ct, tru_bl, Bool.not_true, Bool.not_false, Bool.false_eq_true, Bool.true_eq_false, if_true, if_false, ND.ix_tup, ix_lst, at_0, at_1, at_2, at_3, at_4, ND.len_tup, ND.len_lst, eq_int, eq_bl, op_addI, op_subI, op_ltI, op_leI, op_gtI, op_geI, op_addX_i, op_addX_s, op_addX_l, op_addX_t, op_mulX_i, op_mulX_l, op_isN_non, op_isN_tup, op_isN_lst, op_isN_ins, op_isB, sl_lst, int_int, int_bl, i1_int, i2f_int, src_tup, src_lst, negI, decide_true, decide_false, List.length_map, rng1_nat (n := vs.length) (st := r ++ [.lst []]) (by omega)]
  obtain ⟨e2, s2, hf, y6, y7, q1, q2⟩ := for_allF (g := gNm 6) (body := l2__law_fewest) h1
    (fun i env s => ∃ y6 y7, env = [some (.lst (encs ss)), some (.lst (vs.map .int)), some td, some (.int best), some (.int n), some (.ref r.length), y6, y7, x8, x9] ∧ s = r ++ [.lst (((List.range i).map fun i => stepT (gS ss n) best n (gI T i) (gI vs i)).map .int)])
    ⟨x6, x7, rfl, rfl⟩ (fun i d env s hd ⟨y6, y7, q1, q2⟩ => by
      subst q1 q2
      obtain ⟨rfl, hi⟩ := range_get hd
      have z1 : (0 : Int) + (i : Int) = (i : Int) := by omega
      rw [z1]
      generalize hs0 : ((List.range i).map fun i => stepT (gS ss n) best n (gI T i) (gI vs i)) = acc
      have a1 := int_at (xs := vs) (i := i) hi
      have a2 := enc_at (ss := ss) (i := n) hn
      have a3 : gS ss n = ss[n] := by
        unfold gS
        rw [List.getD_eq_getElem?_getD, List.getElem?_eq_getElem hn]
        rfl
      have a4 := sees [.lst (acc.map .int)] i (by omega)
      have acl : acc.length = i := by rw [← hs0, List.length_map, List.length_range]
      have ap : ∀ x : Int, appendD (.ref r.length) [.int x] (r ++ [.lst (acc.map .int)]) = .ok .non (r ++ [.lst ((acc ++ [x]).map .int)]) := fun x => by
        rw [app_last0 (by rw [List.length_map]; omega), List.map_append]
        rfl
      have fin2 : ∀ x : Int, l2__law_fewest_2 [some (.lst (encs ss)), some (.lst (vs.map .int)), some td, some (.int best), some (.int n), some (.ref r.length), some (.int i), some (.int x), x8, x9] (r ++ [.lst (acc.map .int)]) = .nx [some (.lst (encs ss)), some (.lst (vs.map .int)), some td, some (.int best), some (.int n), some (.ref r.length), some (.int i), some (.int x), x8, x9] (r ++ [.lst ((acc ++ [x]).map .int)]) := fun x => by
        simp only [l2__law_fewest_2, ev_sSeq, ev_sNil, ev_sIf, ev_sSet, ev_sDrop, ev_sRet, ev_sRetN, ev_sSetIx, ev_sAug, ev_bAnd, ev_bOr, ev_bNot, ev_bYes, ev_tru, ev_toB, ev_e2, ev_eVar, ev_eK, ev_eC, ev_eC0, ev_aCons, ev_aNil, ev_eIf, ev_eAnd, ev_eOr, ev_eNot, ev_eSl, ev_oSome, ev_oNone, ev_eFld, ev_eMeth, ev_eBM, ev_iVal, ev_iR1, ev_iR2, ev_gNm, ev_mkL_f, ev_mkL_t, ev_wipe0, ev_wipe1, ev_eLst0, ev_eTup0, List.getElem?_cons_succ, List.getElem?_cons_zero, List.set_cons_succ, List.set_cons_zero, Res.bind_ok, toS_ok, seq_nx, seq_rt, seq_bk, seq_ct, tru_bl, Bool.not_true, Bool.not_false, Bool.false_eq_true, Bool.true_eq_false, if_true, if_false, ND.ix_tup, ix_lst, at_0, at_1, at_2, at_3, at_4, ND.len_tup, ND.len_lst, eq_int, eq_bl, op_addI, op_subI, op_ltI, op_leI, op_gtI, op_geI, op_addX_i, op_addX_s, op_addX_l, op_addX_t, op_mulX_i, op_mulX_l, op_isN_non, op_isN_tup, op_isN_lst, op_isN_ins, op_isB, sl_lst, int_int, int_bl, i1_int, i2f_int, src_tup, src_lst, negI, decide_true, decide_false, sq_ref, get_last, ap]
      have hb : (if decide ((0 : Int) < (n : Int)) = true then (1 : Int) else 0) = if 0 < n then 1 else 0 := by
        by_cases z : 0 < n
        · rw [decide_eq_true (by omega), if_pos z]
          rfl
        · rw [decide_eq_false (by omega), if_neg z]
          rfl
      refine ⟨_, rfl, _, _, .inl ?_, some (.int i), some (.int (stepT (gS ss n) best n (gI T i) (gI vs i))), rfl, by rw [List.range_succ, List.map_append, hs0]⟩
      show l2__law_fewest [some (.lst (encs ss)), some (.lst (vs.map .int)), some td, some (.int best), some (.int n), some (.ref r.length), some (.int i), y7, x8, x9] (r ++ [.lst (acc.map .int)]) = .nx _ (r ++ [.lst ((acc ++ [stepT (gS ss n) best n (gI T i) (gI vs i)]).map .int)])
      rw [← fin2]
      unfold stepT
      rw [a3]
      by_cases c1 : ss[n].1 ≤ gI vs i
      · by_cases c2 : gI vs i ≤ ss[n].2
        · rw [if_pos ⟨c1, c2⟩]
          by_cases c3 : 0 ≤ gI T i
          · rw [if_pos c3, ← hb, ← minI_eq]
            simp only [l2__law_fewest, l2__law_fewest_1, ev_sSeq, ev_sNil, ev_sIf, ev_sSet, ev_sDrop, ev_sRet, ev_sRetN, ev_sSetIx, ev_sAug, ev_bAnd, ev_bOr, ev_bNot, ev_bYes, ev_tru, ev_toB, ev_e2, ev_eVar, ev_eK, ev_eC, ev_eC0, ev_aCons, ev_aNil, ev_eIf, ev_eAnd, ev_eOr, ev_eNot, ev_eSl, ev_oSome, ev_oNone, ev_eFld, ev_eMeth, ev_eBM, ev_iVal, ev_iR1, ev_iR2, ev_gNm, ev_mkL_f, ev_mkL_t, ev_wipe0, ev_wipe1, ev_eLst0, ev_eTup0, List.getElem?_cons_succ, List.getElem?_cons_zero, List.set_cons_succ, List.set_cons_zero, Res.bind_ok, toS_ok, seq_nx, seq_rt, seq_bk, seq_ct, tru_bl, Bool.not_true, Bool.not_false, Bool.false_eq_true, Bool.true_eq_false, if_true, if_false, ND.ix_tup, ix_lst, at_0, at_1, at_2, at_3, at_4, ND.len_tup, ND.len_lst, eq_int, eq_bl, op_addI, op_subI, op_ltI, op_leI, op_gtI, op_geI, op_addX_i, op_addX_s, op_addX_l, op_addX_t, op_mulX_i, op_mulX_l, op_isN_non, op_isN_tup, op_isN_lst, op_isN_ins, op_isB, sl_lst, int_int, int_bl, i1_int, i2f_int, src_tup, src_lst, negI, decide_true, decide_false, a1, a2, decide_eq_true c1, decide_eq_true c2, a4, decide_eq_true c3]
          · rw [if_neg c3, ← hb]
            simp only [l2__law_fewest, l2__law_fewest_1, ev_sSeq, ev_sNil, ev_sIf, ev_sSet, ev_sDrop, ev_sRet, ev_sRetN, ev_sSetIx, ev_sAug, ev_bAnd, ev_bOr, ev_bNot, ev_bYes, ev_tru, ev_toB, ev_e2, ev_eVar, ev_eK, ev_eC, ev_eC0, ev_aCons, ev_aNil, ev_eIf, ev_eAnd, ev_eOr, ev_eNot, ev_eSl, ev_oSome, ev_oNone, ev_eFld, ev_eMeth, ev_eBM, ev_iVal, ev_iR1, ev_iR2, ev_gNm, ev_mkL_f, ev_mkL_t, ev_wipe0, ev_wipe1, ev_eLst0, ev_eTup0, List.getElem?_cons_succ, List.getElem?_cons_zero, List.set_cons_succ, List.set_cons_zero, Res.bind_ok, toS_ok, seq_nx, seq_rt, seq_bk, seq_ct, tru_bl, Bool.not_true, Bool.not_false, Bool.false_eq_true, Bool.true_eq_false, if_true, if_false, ND.ix_tup, ix_lst, at_0, at_1, at_2, at_3, at_4, ND.len_tup, ND.len_lst, eq_int, eq_bl, op_addI, op_subI, op_ltI, op_leI, op_gtI, op_geI, op_addX_i, op_addX_s, op_addX_l, op_addX_t, op_mulX_i, op_mulX_l, op_isN_non, op_isN_tup, op_isN_lst, op_isN_ins, op_isB, sl_lst, int_int, int_bl, i1_int, i2f_int, src_tup, src_lst, negI, decide_true, decide_false, a1, a2, decide_eq_true c1, decide_eq_true c2, a4, decide_eq_false c3]
        · rw [if_neg (fun z => c2 z.2)]
          simp only [l2__law_fewest, l2__law_fewest_1, ev_sSeq, ev_sNil, ev_sIf, ev_sSet, ev_sDrop, ev_sRet, ev_sRetN, ev_sSetIx, ev_sAug, ev_bAnd, ev_bOr, ev_bNot, ev_bYes, ev_tru, ev_toB, ev_e2, ev_eVar, ev_eK, ev_eC, ev_eC0, ev_aCons, ev_aNil, ev_eIf, ev_eAnd, ev_eOr, ev_eNot, ev_eSl, ev_oSome, ev_oNone, ev_eFld, ev_eMeth, ev_eBM, ev_iVal, ev_iR1, ev_iR2, ev_gNm, ev_mkL_f, ev_mkL_t, ev_wipe0, ev_wipe1, ev_eLst0, ev_eTup0, List.getElem?_cons_succ, List.getElem?_cons_zero, List.set_cons_succ, List.set_cons_zero, Res.bind_ok, toS_ok, seq_nx, seq_rt, seq_bk, seq_ct, tru_bl, Bool.not_true, Bool.not_false, Bool.false_eq_true, Bool.true_eq_false, if_true, if_false, ND.ix_tup, ix_lst, at_0, at_1, at_2, at_3, at_4, ND.len_tup, ND.len_lst, eq_int, eq_bl, op_addI, op_subI, op_ltI, op_leI, op_gtI, op_geI, op_addX_i, op_addX_s, op_addX_l, op_addX_t, op_mulX_i, op_mulX_l, op_isN_non, op_isN_tup, op_isN_lst, op_isN_ins, op_isB, sl_lst, int_int, int_bl, i1_int, i2f_int, src_tup, src_lst, negI, decide_true, decide_false, a1, a2, decide_eq_true c1, decide_eq_false c2]
      · rw [if_neg (fun z => c1 z.1)]
        simp only [l2__law_fewest, l2__law_fewest_1, ev_sSeq, ev_sNil, ev_sIf, ev_sSet, ev_sDrop, ev_sRet, ev_sRetN, ev_sSetIx, ev_sAug, ev_bAnd, ev_bOr, ev_bNot, ev_bYes, ev_tru, ev_toB, ev_e2, ev_eVar, ev_eK, ev_eC, ev_eC0, ev_aCons, ev_aNil, ev_eIf, ev_eAnd, ev_eOr, ev_eNot, ev_eSl, ev_oSome, ev_oNone, ev_eFld, ev_eMeth, ev_eBM, ev_iVal, ev_iR1, ev_iR2, ev_gNm, ev_mkL_f, ev_mkL_t, ev_wipe0, ev_wipe1, ev_eLst0, ev_eTup0, List.getElem?_cons_succ, List.getElem?_cons_zero, List.set_cons_succ, List.set_cons_zero, Res.bind_ok, toS_ok, seq_nx, seq_rt, seq_bk, seq_ct, tru_bl, Bool.not_true, Bool.not_false, Bool.false_eq_true, Bool.true_eq_false, if_true, if_false, ND.ix_tup, ix_lst, at_0, at_1, at_2, at_3, at_4, ND.len_tup, ND.len_lst, eq_int, eq_bl, op_addI, op_subI, op_ltI, op_leI, op_gtI, op_geI, op_addX_i, op_addX_s, op_addX_l, op_addX_t, op_mulX_i, op_mulX_l, op_isN_non, op_isN_tup, op_isN_lst, op_isN_ins, op_isB, sl_lst, int_int, int_bl, i1_int, i2f_int, src_tup, src_lst, negI, decide_true, decide_false, a1, a2, decide_eq_false c1])
  rw [range_len] at q2
  subst q1 q2
  exact ⟨y6, y7, hf⟩
/-- what is told of a value behind some spans: F bends, sh the numbers of the last run, sp the last span -/
def tollOf (F : Int) (sh sp : Sp2) (v : Int) : Int := if sh.1 ≤ v ∧ v ≤ sh.2 then F else if sp.1 ≤ v ∧ v ≤ sp.2 then F + 1 else -1
theorem toll_first (sp : Sp2) (v : Int) : stepT sp 0 0 0 v = tollOf 0 sp sp v := by
  unfold stepT tollOf
  by_cases h : sp.1 ≤ v ∧ v ≤ sp.2
  · rw [if_pos h, if_pos h, if_pos (Int.le_refl _), if_neg (by omega)]
    rfl
  · rw [if_neg h, if_neg h, if_neg h]
theorem toll_more {F : Int} (hF : 0 ≤ F) {n : Nat} (hn : 0 < n) {sh u sp spp : Sp2} (ho : over sh sp = some u) (v : Int) : stepT sp F n (tollOf F sh spp v) v = tollOf F u sp v := by
  unfold over at ho
  split at ho
  · cases ho
  cases ho
  unfold stepT tollOf
  rw [if_pos hn]
  show _ = if max sh.1 sp.1 ≤ v ∧ v ≤ min sh.2 sp.2 then F else if sp.1 ≤ v ∧ v ≤ sp.2 then F + 1 else -1
  by_cases h : sp.1 ≤ v ∧ v ≤ sp.2
  · rw [if_pos h]
    by_cases h2 : sh.1 ≤ v ∧ v ≤ sh.2
    · rw [if_pos h2, if_pos hF, if_pos (by omega)]
      omega
    · have e : (if max sh.1 sp.1 ≤ v ∧ v ≤ min sh.2 sp.2 then F else if sp.1 ≤ v ∧ v ≤ sp.2 then F + 1 else -1) = F + 1 := by rw [if_neg (by omega), if_pos h]
      rw [e, if_neg h2]
      by_cases h3 : spp.1 ≤ v ∧ v ≤ spp.2
      · rw [if_pos h3, if_pos (by omega)]
        omega
      · rw [if_neg h3, if_neg (by omega)]
  · rw [if_neg h, if_neg (by omega), if_neg h]
theorem toll_new {F : Int} (hF : 0 ≤ F) {n : Nat} (hn : 0 < n) {sh sp spp : Sp2} (ho : over sh sp = none) (v : Int) : stepT sp F n (tollOf F sh spp v) v = tollOf (F + 1) sp sp v := by
  have hn2 : (over sh sp).isNone = true := by rw [ho]; rfl
  rw [over_isNone] at hn2
  unfold stepT tollOf
  rw [if_pos hn]
  by_cases h : sp.1 ≤ v ∧ v ≤ sp.2
  · rw [if_pos h, if_pos h]
    rw [if_neg (show ¬ (sh.1 ≤ v ∧ v ≤ sh.2) by omega)]
    by_cases h3 : spp.1 ≤ v ∧ v ≤ spp.2
    · rw [if_pos h3, if_pos (by omega)]
      omega
    · rw [if_neg h3, if_neg (by omega)]
  · rw [if_neg h, if_neg h, if_neg h]
theorem usort_mem {k : Int} {ns : List Int} : k ∈ usortI ns ↔ k ∈ ns := by
  unfold usortI
  rw [(sortI_perm _).mem_iff, dedupI_mem]
theorem dedup_len : ∀ xs : List Int, (dedupI xs).length ≤ xs.length
  | [] => Nat.le_refl _
  | x :: xs => by
    have := dedup_len xs
    unfold dedupI
    split
    · exact Nat.le_succ_of_le this
    · exact Nat.succ_le_succ this
/-- the least told number is F -/
theorem best_of {F : Int} (hF : 0 ≤ F) {sh sp : Sp2} {vs : List Int} (hle : sh.1 ≤ sh.2) (hm : sh.1 ∈ vs) : minL ((vs.map (tollOf F sh sp)).filter fun t => decide (0 ≤ t)) = F ∧ 0 < ((vs.map (tollOf F sh sp)).filter fun t => decide (0 ≤ t)).length := by
  have hmem : F ∈ (vs.map (tollOf F sh sp)).filter fun t => decide (0 ≤ t) := List.mem_filter.mpr ⟨List.mem_map.mpr ⟨sh.1, hm, if_pos ⟨Int.le_refl _, hle⟩⟩, decide_eq_true hF⟩
  refine ⟨(minL_is hmem fun y hy => ?_).symm, List.length_pos_of_mem hmem⟩
  obtain ⟨h1, h2⟩ := List.mem_filter.mp hy
  have h3 := of_decide_eq_true h2
  obtain ⟨v, _, rfl⟩ := List.mem_map.mp h1
  unfold tollOf at h3 ⊢
  split
  · exact Int.le_refl _
  · split
    · omega
    · rename_i a b
      rw [if_neg a, if_neg b] at h3
      omega
theorem maps_eq {vs : List Int} {g : Int → Int} {f : Int → Int → Int} : ((List.range vs.length).map fun i => f (gI (vs.map g) i) (gI vs i)) = vs.map fun v => f (g v) v := by
  refine List.ext_getElem (by simp) fun i h1 h2 => ?_
  rw [List.length_map, List.length_range] at h1
  rw [List.getElem_map, List.getElem_map, List.getElem_range]
  unfold gI
  rw [List.getD_eq_getElem?_getD, List.getD_eq_getElem?_getD, List.getElem?_map, List.getElem?_eq_getElem h1]
  rfl
/-- one span -/
theorem few_step {ss : List Sp2} {vs : List Int} {g : Int → Int} {td : D} {best F : Int} {n : Nat} (hn : n < ss.length) (hv : vs.length ≤ 1000) {r : Sto} (sees : Sees td (vs.map g) r) {sh sp : Sp2} (hF : 0 ≤ F) (hg : ∀ v, stepT (gS ss n) best n (g v) v = tollOf F sh sp v) (hle : sh.1 ≤ sh.2) (hm : sh.1 ∈ vs) (x5 x6 x7 x8 x9 : Option D) :
    ∃ y6 y7, l1__law_fewest [some (.lst (encs ss)), some (.lst (vs.map .int)), some td, some (.int best), some (.int n), x5, x6, x7, x8, x9] r =
      .nx [some (.lst (encs ss)), some (.lst (vs.map .int)), some (.ref r.length), some (.int F), some (.int n), some (.ref r.length), y6, y7, x8, x9] (r ++ [.lst ((vs.map (tollOf F sh sp)).map .int)]) := by
  obtain ⟨y6, y7, e1⟩ := few_in (ss := ss) (best := best) hn hv (by rw [List.length_map]) sees x6 x7 x8 x9
  rw [maps_eq (f := fun a v => stepT (gS ss n) best n a v), show (fun v => stepT (gS ss n) best n (g v) v) = tollOf F sh sp from funext hg] at e1
  obtain ⟨b1, b2⟩ := best_of (sp := sp) hF hle hm
  refine ⟨y6, y7, ?_⟩
  have hlv : (r ++ [SO.lst ((vs.map (tollOf F sh sp)).map .int)])[r.length]? = some (.lst ((vs.map (tollOf F sh sp)).map .int)) := get_last
  have c1 : eComp false (iVal (eVar 2)) (gNm 7) (toB (e2 geI (eVar 7) (eK (.int 0)))) (eVar 7) [7] [some (.lst (encs ss)), some (.lst (vs.map .int)), some (.ref r.length), some (.int best), some (.int n), some (.ref r.length), y6, y7, x8, x9] (r ++ [.lst ((vs.map (tollOf F sh sp)).map .int)]) = .ok (.lst (((vs.map (tollOf F sh sp)).filter fun t => decide (0 ≤ t)).map .int)) (r ++ [.lst ((vs.map (tollOf F sh sp)).map .int)]) := by
    obtain ⟨acc, s2, e, p1, p2⟩ := eComp_gen (lv := false) (ds := (vs.map (tollOf F sh sp)).map .int) (mi := iVal (eVar 2)) (g := gNm 7) (t := toB (e2 geI (eVar 7) (eK (.int 0)))) (me := eVar 7) (vs := [7]) (env0 := [some (.lst (encs ss)), some (.lst (vs.map .int)), some (.ref r.length), some (.int best), some (.int n), some (.ref r.length), y6, y7, x8, x9]) (st := r ++ [.lst ((vs.map (tollOf F sh sp)).map .int)])
      (by rw [ev_iVal]; exact src_lv hlv) rfl (fun i acc s => s = r ++ [.lst ((vs.map (tollOf F sh sp)).map .int)] ∧ acc = (((vs.map (tollOf F sh sp)).take i).filter fun t => decide (0 ≤ t)).map .int) ⟨rfl, rfl⟩ (fun i acc s ⟨e, _⟩ => by rw [e]; exact lv_rd hlv) (fun i d acc s hd ⟨q1, q2⟩ => by
        subst q1 q2
        obtain ⟨t, ht, rfl, hi⟩ := get_map hd
        have htk : (vs.map (tollOf F sh sp)).take (i + 1) = (vs.map (tollOf F sh sp)).take i ++ [t] := by rw [List.take_add_one, ht]; rfl
        have hll : ((((vs.map (tollOf F sh sp)).take i).filter fun t => decide (0 ≤ t)).map D.int).length < 16777216 := by
          rw [List.length_map]
          have := List.length_filter_le (fun t : Int => decide (0 ≤ t)) ((vs.map (tollOf F sh sp)).take i)
          rw [List.length_take, List.length_map] at this
          omega
        refine ⟨_, rfl, ?_⟩
        by_cases h : 0 ≤ t
        · refine .inl ⟨_, .int t, _, by simp only [ev_sSeq, ev_sNil, ev_sIf, ev_sSet, ev_sDrop, ev_sRet, ev_sRetN, ev_sSetIx, ev_sAug, ev_bAnd, ev_bOr, ev_bNot, ev_bYes, ev_tru, ev_toB, ev_e2, ev_eVar, ev_eK, ev_eC, ev_eC0, ev_aCons, ev_aNil, ev_eIf, ev_eAnd, ev_eOr, ev_eNot, ev_eSl, ev_oSome, ev_oNone, ev_eFld, ev_eMeth, ev_eBM, ev_iVal, ev_iR1, ev_iR2, ev_gNm, ev_mkL_f, ev_mkL_t, ev_wipe0, ev_wipe1, ev_eLst0, ev_eTup0, List.getElem?_cons_succ, List.getElem?_cons_zero, List.set_cons_succ, List.set_cons_zero, Res.bind_ok, toS_ok, seq_nx, seq_rt, seq_bk, seq_ct, tru_bl, Bool.not_true, Bool.not_false, Bool.false_eq_true, Bool.true_eq_false, if_true, if_false, ND.ix_tup, ix_lst, at_0, at_1, at_2, at_3, at_4, ND.len_tup, ND.len_lst, eq_int, eq_bl, op_addI, op_subI, op_ltI, op_leI, op_gtI, op_geI, op_addX_i, op_addX_s, op_addX_l, op_addX_t, op_mulX_i, op_mulX_l, op_isN_non, op_isN_tup, op_isN_lst, op_isN_ins, op_isB, sl_lst, int_int, int_bl, i1_int, i2f_int, src_tup, src_lst, negI, decide_true, decide_false, decide_eq_true h], rfl, hll, rfl, ?_⟩
          rw [htk, List.filter_append, List.map_append]
          have : ([t].filter fun t => decide (0 ≤ t)) = [t] := List.filter_cons_of_pos (p := fun t : Int => decide (0 ≤ t)) (decide_eq_true h)
          rw [this]
          rfl
        · refine .inr ⟨_, by simp only [ev_sSeq, ev_sNil, ev_sIf, ev_sSet, ev_sDrop, ev_sRet, ev_sRetN, ev_sSetIx, ev_sAug, ev_bAnd, ev_bOr, ev_bNot, ev_bYes, ev_tru, ev_toB, ev_e2, ev_eVar, ev_eK, ev_eC, ev_eC0, ev_aCons, ev_aNil, ev_eIf, ev_eAnd, ev_eOr, ev_eNot, ev_eSl, ev_oSome, ev_oNone, ev_eFld, ev_eMeth, ev_eBM, ev_iVal, ev_iR1, ev_iR2, ev_gNm, ev_mkL_f, ev_mkL_t, ev_wipe0, ev_wipe1, ev_eLst0, ev_eTup0, List.getElem?_cons_succ, List.getElem?_cons_zero, List.set_cons_succ, List.set_cons_zero, Res.bind_ok, toS_ok, seq_nx, seq_rt, seq_bk, seq_ct, tru_bl, Bool.not_true, Bool.not_false, Bool.false_eq_true, Bool.true_eq_false, if_true, if_false, ND.ix_tup, ix_lst, at_0, at_1, at_2, at_3, at_4, ND.len_tup, ND.len_lst, eq_int, eq_bl, op_addI, op_subI, op_ltI, op_leI, op_gtI, op_geI, op_addX_i, op_addX_s, op_addX_l, op_addX_t, op_mulX_i, op_mulX_l, op_isN_non, op_isN_tup, op_isN_lst, op_isN_ins, op_isB, sl_lst, int_int, int_bl, i1_int, i2f_int, src_tup, src_lst, negI, decide_true, decide_false, decide_eq_false h], rfl, ?_⟩
          rw [htk, List.filter_append, List.map_append]
          have : ([t].filter fun t => decide (0 ≤ t)) = [] := List.filter_cons_of_neg (p := fun t : Int => decide (0 ≤ t)) (by rw [decide_eq_false h]; exact Bool.false_ne_true)
          rw [this, List.map_nil, List.append_nil])
    rw [e, p1, p2, List.take_of_length_le (by rw [List.length_map (f := D.int)]; exact Nat.le_refl _)]
    rfl
  have m1 : intsD minL [.lst (((vs.map (tollOf F sh sp)).filter fun t => decide (0 ≤ t)).map .int)] (r ++ [.lst ((vs.map (tollOf F sh sp)).map .int)]) = .ok (.int F) (r ++ [.lst ((vs.map (tollOf F sh sp)).map .int)]) := by
    rw [intsD_ok2 b2, b1]
  simp only [l1__law_fewest, l1__law_fewest_1, l1__law_fewest_2, l1__law_fewest_3, ev_sSeq, ev_sNil, ev_sIf, ev_sSet, ev_sDrop, ev_sRet, ev_sRetN, ev_sSetIx, ev_sAug, ev_bAnd, ev_bOr, ev_bNot, ev_bYes, ev_tru, ev_toB, ev_e2, ev_eVar, ev_eK, ev_eC, ev_eC0, ev_aCons, ev_aNil, ev_eIf, ev_eAnd, ev_eOr, ev_eNot, ev_eSl, ev_oSome, ev_oNone, ev_eFld, ev_eMeth, ev_eBM, ev_iVal, ev_iR1, ev_iR2, ev_gNm, ev_mkL_f, ev_mkL_t, ev_wipe0, ev_wipe1, ev_eLst0, ev_eTup0, List.getElem?_cons_succ, List.getElem?_cons_zero, List.set_cons_succ, List.set_cons_zero, Res.bind_ok, toS_ok, seq_nx, seq_rt, seq_bk, seq_ct, tru_bl, Bool.not_true, Bool.not_false, Bool.false_eq_true, Bool.true_eq_false, if_true, if_false, ND.ix_tup, ix_lst, at_0, at_1, at_2, at_3, at_4, ND.len_tup, ND.len_lst, eq_int, eq_bl, op_addI, op_subI, op_ltI, op_leI, op_gtI, op_geI, op_addX_i, op_addX_s, op_addX_l, op_addX_t, op_mulX_i, op_mulX_l, op_isN_non, op_isN_tup, op_isN_lst, op_isN_ins, op_isB, sl_lst, int_int, int_bl, i1_int, i2f_int, src_tup, src_lst, negI, decide_true, decide_false, e1, c1, m1]
theorem fewest_ok {ss : List Sp2} (hv : Vd ss) (h0 : 0 < ss.length) (hn : ss.length ≤ 60) {r : Sto} : m__law_fewest [.lst (encs ss)] r = .ok (.int (((runsL ss).length : Int) - 1)) r := by
  have hel : (encs ss).length = ss.length := by unfold encs; rw [List.length_map]
  generalize hvs : usortI (ss.map (·.1)) = vs
  have hvl : vs.length ≤ 60 := by
    rw [← hvs]
    unfold usortI
    rw [sortI_len]
    have := dedup_len (ss.map (·.1))
    rw [List.length_map] at this
    omega
  have hmem : ∀ j, j < ss.length → (gS ss j).1 ∈ vs := fun j hj => by
    rw [← hvs, usort_mem]
    refine List.mem_map.mpr ⟨gS ss j, ?_, rfl⟩
    unfold gS
    rw [List.getD_eq_getElem?_getD, List.getElem?_eq_getElem hj]
    exact List.getElem_mem hj
  have c1 : eComp false (iVal (eVar 0)) (gNm 9) bYes (e2 ixD (eVar 9) (eK (.int 0))) [9] [some (.lst (encs ss)), none, none, none, none, none, none, none, none, none] r = .ok (.lst ((ss.map (·.1)).map .int)) r := by
    rw [eComp_pure (ds := encs ss) (s1 := r) rfl (fun d => match d with
      | .lst (a :: _) => a
      | d => d) (fun _ => true) (by omega) (fun d hd => by
        obtain ⟨s, _, rfl⟩ := List.mem_map.mp hd
        exact ⟨_, rfl, rfl, fun _ => by simp [enc]⟩), List.filter_eq_self.mpr (fun _ _ => rfl)]
    unfold encs
    rw [List.map_map, List.map_map]
    rfl
  have u1 : usortD false [.lst ((ss.map (·.1)).map .int)] r = .ok (.lst (vs.map .int)) r := by
    have ok : Ok ((ss.map (·.1)).length < 64) := show (ss.map (·.1)).length < 64 by rw [List.length_map]; omega
    show (match allInts ((ss.map (·.1)).map .int) with
      | some ns => if Ok (ns.length < 64) then mkL false ((usortI ns).map .int) r else .bad
      | none => .bad) = _
    rw [allInts_map]
    show (if Ok ((ss.map (·.1)).length < 64) then mkL false ((usortI (ss.map (·.1))).map .int) r else .bad) = _
    rw [if_pos ok, hvs]
    rfl
  have c2 : eComp false (iVal (eVar 1)) (gNm 8) bYes (eK (.int 0)) [8] [some (.lst (encs ss)), some (.lst (vs.map .int)), none, none, none, none, none, none, none, none] r = .ok (.lst ((vs.map fun _ => (0 : Int)).map .int)) r := by
    rw [eComp_pure (g := gNm 8) (ds := vs.map .int) (s1 := r) rfl (fun _ => .int 0) (fun _ => true) (by rw [List.length_map]; omega) (fun d hd => ⟨_, rfl, rfl, fun _ => rfl⟩), List.filter_eq_self.mpr (fun _ _ => rfl)]
    rw [List.map_map, List.map_map]
    rfl
  have see0 : Sees (.lst ((vs.map fun _ => (0 : Int)).map .int)) (vs.map fun _ => (0 : Int)) r := fun ex k hk => by
    rw [ix_lst, int_at hk]
  have h1 : iR1 (eC lenD (aCons (eVar 0) aNil)) [some (.lst (encs ss)), some (.lst (vs.map .int)), some (.lst ((vs.map fun _ => (0 : Int)).map .int)), some (.int 0), none, none, none, none, none, none] r = .ok (.fz (rangeD 0 ss.length)) r := by
    simp only [ev_sSeq, ev_sNil, ev_sIf, ev_sSet, ev_sDrop, ev_sRet, ev_sRetN, ev_sSetIx, ev_sAug, ev_bAnd, ev_bOr, ev_bNot, ev_bYes, ev_tru, ev_toB, ev_e2, ev_eVar, ev_eK, ev_eC, ev_eC0, ev_aCons, ev_aNil, ev_eIf, ev_eAnd, ev_eOr, ev_eNot, ev_eSl, ev_oSome, ev_oNone, ev_eFld, ev_eMeth, ev_eBM, ev_iVal, ev_iR1, ev_iR2, ev_gNm, ev_mkL_f, ev_mkL_t, ev_wipe0, ev_wipe1, ev_eLst0, ev_eTup0, List.getElem?_cons_succ, List.getElem?_cons_zero, List.set_cons_succ, List.set_cons_zero, Res.bind_ok, toS_ok, seq_nx, seq_rt, seq_bk, seq_ct, tru_bl, Bool.not_true, Bool.not_false, Bool.false_eq_true, Bool.true_eq_false, if_true, if_false, ND.ix_tup, ix_lst, at_0, at_1, at_2, at_3, at_4, ND.len_tup, ND.len_lst, eq_int, eq_bl, op_addI, op_subI, op_ltI, op_leI, op_gtI, op_geI, op_addX_i, op_addX_s, op_addX_l, op_addX_t, op_mulX_i, op_mulX_l, op_isN_non, op_isN_tup, op_isN_lst, op_isN_ins, op_isB, sl_lst, int_int, int_bl, i1_int, i2f_int, src_tup, src_lst, negI, decide_true, decide_false, hel, rng1_nat (n := ss.length) (st := r) (by omega)]
  obtain ⟨e2, s2, hf, td, best, g, ex, x4, x5, x6, x7, q1, q2, q3, q4⟩ := for_allF (g := gNm 4) (body := l1__law_fewest) h1
    (fun i env s => ∃ (td : D) (best : Int) (g : Int → Int) (ex : Sto) (x4 x5 x6 x7 : Option D), env = [some (.lst (encs ss)), some (.lst (vs.map .int)), some td, some (.int best), x4, x5, x6, x7, none, none] ∧ s = r ++ ex ∧ Sees td (vs.map g) s ∧
      ((i = 0 ∧ best = 0 ∧ g = fun _ => 0) ∨ ∃ (f : Nat) (sh sp : Sp2), 0 ≤ best ∧ Shared ss f i sh ∧ g = tollOf best sh sp ∧ ((runsL ss).length : Int) = best + (runsG f sh i (ss.drop i)).length))
    ⟨_, 0, _, [], none, none, none, none, rfl, (List.append_nil _).symm, see0, .inl ⟨rfl, rfl, rfl⟩⟩ (fun i d env s hd ⟨td, best, g, ex, x4, x5, x6, x7, q1, q2, q3, q4⟩ => by
      obtain ⟨rfl, hi⟩ := range_get hd
      subst q1
      have z1 : (0 : Int) + (i : Int) = (i : Int) := by omega
      rw [z1]
      have hgi : gS ss i ∈ ss := by
        unfold gS
        rw [List.getD_eq_getElem?_getD, List.getElem?_eq_getElem hi]
        exact List.getElem_mem hi
      have hvi := hv _ hgi
      have hdr : ss.drop i = gS ss i :: ss.drop (i + 1) := by
        rw [List.drop_eq_getElem_cons hi]
        unfold gS
        rw [List.getD_eq_getElem?_getD, List.getElem?_eq_getElem hi]
        rfl
      have one : ∀ f : Nat, f = i → Shared ss f (i + 1) (gS ss i) := fun f hf => by
        subst hf
        have o : ∀ j, f ≤ j → j < f + 1 → gS ss j = gS ss f := fun j h1 h2 => by rw [show j = f by omega]
        exact ⟨by omega, fun j h1 h2 => by rw [o j h1 h2]; omega, ⟨f, by omega, by omega, rfl⟩, ⟨f, by omega, by omega, rfl⟩, hvi⟩
      -- what is told behind this span
      have nxt : ∃ (F : Int) (f : Nat) (sh sp : Sp2), 0 ≤ F ∧ (∀ v, stepT (gS ss i) best i (g v) v = tollOf F sh sp v) ∧ Shared ss f (i + 1) sh ∧ ((runsL ss).length : Int) = F + (runsG f sh (i + 1) (ss.drop (i + 1))).length := by
        rcases q4 with ⟨rfl, rfl, rfl⟩ | ⟨f, sh, sp, a1, a2, rfl, a4⟩
        · refine ⟨0, 0, gS ss 0, gS ss 0, Int.le_refl _, toll_first _, one 0 rfl, ?_⟩
          obtain ⟨s0, rest, rfl⟩ := List.exists_cons_of_length_pos h0
          have : runsL (s0 :: rest) = runsG 0 s0 1 rest := rfl
          rw [this]
          show ((runsG 0 s0 1 rest).length : Int) = 0 + ((runsG 0 s0 1 rest).length : Int)
          omega
        · have lt := a2.lt
          rw [hdr] at a4
          unfold runsG at a4
          cases ho : over sh (gS ss i) with
          | none =>
            rw [ho] at a4
            refine ⟨best + 1, i, gS ss i, gS ss i, by omega, toll_new a1 (by omega) ho, one i rfl, ?_⟩
            rw [a4]
            show best + (((runsG i (gS ss i) (i + 1) (ss.drop (i + 1))).length + 1 : Nat) : Int) = _
            omega
          | some u =>
            rw [ho] at a4
            have hu : u = (max sh.1 (gS ss i).1, min sh.2 (gS ss i).2) ∧ max sh.1 (gS ss i).1 ≤ min sh.2 (gS ss i).2 := by
              unfold over at ho
              split at ho
              · cases ho
              · cases ho
                exact ⟨rfl, by omega⟩
            obtain ⟨hu1, hu2⟩ := hu
            have q := a2
            refine ⟨best, f, u, gS ss i, a1, toll_more a1 (by omega) ho, ?_, a4⟩
            rw [hu1]
            refine ⟨by omega, fun j h1 h2 => ?_, ?_, ?_, hu2⟩
            · show (gS ss j).1 ≤ max sh.1 (gS ss i).1 ∧ min sh.2 (gS ss i).2 ≤ (gS ss j).2
              by_cases e : j = i
              · rw [e]
                omega
              · have := q.all j h1 (by omega)
                omega
            · show ∃ j, f ≤ j ∧ j < i + 1 ∧ (gS ss j).1 = max sh.1 (gS ss i).1
              by_cases e : sh.1 ≤ (gS ss i).1
              · exact ⟨i, by omega, by omega, by omega⟩
              · obtain ⟨j, j1, j2, j3⟩ := q.lo
                exact ⟨j, j1, by omega, by omega⟩
            · show ∃ j, f ≤ j ∧ j < i + 1 ∧ (gS ss j).2 = min sh.2 (gS ss i).2
              by_cases e : (gS ss i).2 ≤ sh.2
              · exact ⟨i, by omega, by omega, by omega⟩
              · obtain ⟨j, j1, j2, j3⟩ := q.hi
                exact ⟨j, j1, by omega, by omega⟩
      obtain ⟨F, f, sh, sp, b1, b2, b3, b4⟩ := nxt
      have hsm : sh.1 ∈ vs := by
        obtain ⟨j, j1, j2, j3⟩ := b3.lo
        rw [← j3]
        exact hmem j (by omega)
      obtain ⟨y6, y7, e⟩ := few_step (ss := ss) (vs := vs) (n := i) hi (by omega) q3 b1 b2 b3.le hsm x5 x6 x7 none none
      refine ⟨_, rfl, _, _, .inl e, .ref s.length, F, tollOf F sh sp, ex ++ [.lst ((vs.map (tollOf F sh sp)).map .int)], _, _, _, _, rfl, by rw [q2, List.append_assoc], fun ex2 k hk => ?_, .inr ⟨f, sh, sp, b1, b3, rfl, b4⟩⟩
      rw [ND.ix_ref]
      have : (s ++ [SO.lst ((vs.map (tollOf F sh sp)).map .int)] ++ ex2)[s.length]? = some (.lst ((vs.map (tollOf F sh sp)).map .int)) := by
        rw [List.append_assoc, List.getElem?_append_right (Nat.le_refl _), Nat.sub_self]
        rfl
      rw [this]
      show (match atI ((vs.map (tollOf F sh sp)).map D.int) (k : Int) with
        | some d => Res.ok d _
        | none => .bad) = _
      rw [int_at hk])
  rw [range_len] at q4
  have best_is : best = ((runsL ss).length : Int) - 1 := by
    rcases q4 with ⟨a, _⟩ | ⟨f, sh, sp, a1, a2, a3, a4⟩
    · omega
    · rw [List.drop_length] at a4
      have : (runsG f sh ss.length []).length = 1 := rfl
      rw [this] at a4
      omega
  subst q1
  have e1 : m__law_fewest [.lst (encs ss)] r = fnEnd false r (y__law_fewest [some (.lst (encs ss)), none, none, none, none, none, none, none, none, none] r) := rfl
  have e2 : y__law_fewest [some (.lst (encs ss)), none, none, none, none, none, none, none, none, none] r = .rt (.int best) s2 := by
    simp only [y__law_fewest, y__law_fewest_1, y__law_fewest_2, y__law_fewest_3, y__law_fewest_4, ev_sSeq, ev_sNil, ev_sIf, ev_sSet, ev_sDrop, ev_sRet, ev_sRetN, ev_sSetIx, ev_sAug, ev_bAnd, ev_bOr, ev_bNot, ev_bYes, ev_tru, ev_toB, ev_e2, ev_eVar, ev_eK, ev_eC, ev_eC0, ev_aCons, ev_aNil, ev_eIf, ev_eAnd, ev_eOr, ev_eNot, ev_eSl, ev_oSome, ev_oNone, ev_eFld, ev_eMeth, ev_eBM, ev_iVal, ev_iR1, ev_iR2, ev_gNm, ev_mkL_f, ev_mkL_t, ev_wipe0, ev_wipe1, ev_eLst0, ev_eTup0, List.getElem?_cons_succ, List.getElem?_cons_zero, List.set_cons_succ, List.set_cons_zero, Res.bind_ok, toS_ok, seq_nx, seq_rt, seq_bk, seq_ct, tru_bl, Bool.not_true, Bool.not_false, Bool.false_eq_true, Bool.true_eq_false, if_true, if_false, ND.ix_tup, ix_lst, at_0, at_1, at_2, at_3, at_4, ND.len_tup, ND.len_lst, eq_int, eq_bl, op_addI, op_subI, op_ltI, op_leI, op_gtI, op_geI, op_addX_i, op_addX_s, op_addX_l, op_addX_t, op_mulX_i, op_mulX_l, op_isN_non, op_isN_tup, op_isN_lst, op_isN_ins, op_isB, sl_lst, int_int, int_bl, i1_int, i2f_int, src_tup, src_lst, negI, decide_true, decide_false, c1, u1, c2, hf]
  rw [e1, e2, end_rt_f, q2, best_is]
  exact fin_none (r := r) (ex := ex) rfl
end K75
namespace K75
open PySem L2 ND
theorem lbendsT_ok {xs : List Int} (h0 : 0 < xs.length) (hn : xs.length ≤ 100) {st : Sto} : m__law_bends [.tup (xs.map .int)] st = .ok (.int (bendsN xs : Nat)) st := by
  have e1 : m__law_bends [.tup (xs.map .int)] st = fnEnd false st (y__law_bends [some (.tup (xs.map .int)), none] st) := rfl
  have hc := comp_filter (g := gNm 1) (env := [some (.tup (xs.map .int)), none]) (st := st) (t := toB (e2 (eqD true) (e2 ixD (eVar 0) (eVar 1)) (e2 ixD (eVar 0) (e2 addX (eVar 1) (eK (.int 1)))))) (me := eVar 1) (fun d => d)
    (fun d => match d with
      | .int j => bend xs j.toNat
      | _ => false) (all := rangeD 0 (xs.length - 1)) (fun d hd => by
      obtain ⟨i, hi⟩ := List.getElem?_of_mem hd
      obtain ⟨rfl, hi2⟩ := range_get hi
      refine ⟨_, rfl, ?_, fun _ => by simp⟩
      have a1 := int_at (xs := xs) (i := i + 1) (by omega)
      have a2 := int_at (xs := xs) (i := i) (by omega)
      have z1 : (0 : Int) + (i : Int) = (i : Int) := by omega
      have z2 : (i : Int) + 1 = ((i + 1 : Nat) : Int) := by omega
      rw [z1]
      simp only [ev_toB, ev_e2, ev_eVar, ev_eK, List.getElem?_cons_succ, List.getElem?_cons_zero, Res.bind_ok, ND.ix_tup, a2, op_addX_i, op_addI, z2, a1, eq_int, Int.toNat_natCast, List.set_cons_succ, List.set_cons_zero, if_pos]
      unfold bend
      congr 1
      by_cases h : gI xs i = gI xs (i + 1)
      · rw [decide_eq_true h, decide_eq_false (fun e => e h)]
        rfl
      · rw [decide_eq_false h, decide_eq_true h]
        rfl) (by rw [range_len, sizeLine_eq]; omega)
  have hr : rng1 ((xs.length : Int) - 1) st = .ok (.fz (rangeD 0 (xs.length - 1))) st := by
    have := rng1_nat (n := xs.length - 1) (st := st) (by omega)
    have z : ((xs.length - 1 : Nat) : Int) = (xs.length : Int) - 1 := by omega
    rw [z] at this
    exact this
  have hl : ((List.filter (fun d => match d with
      | D.int j => bend xs j.toNat
      | _ => false) (rangeD 0 (xs.length - 1))).map (fun d => d)).length = bendsN xs := by
    unfold bendsN rangeD
    rw [List.length_map, List.filter_map, List.length_map]
    congr 2
    funext i
    show bend xs (0 + (i : Int)).toNat = bend xs i
    congr 1
    omega
  rw [range_len] at hc
  have e2 : y__law_bends [some (.tup (xs.map .int)), none] st = .rt (.int (bendsN xs : Nat)) st := by
    rw [← hl]
    simp [y__law_bends, hr, hc]
  rw [e1, e2, end_rt_f]
  exact fin_none0 rfl
/-! ### the law -/
theorem eq_tupI {xs : List Int} {neg : Bool} {st : Sto} : eqD neg (.tup (xs.map .int)) (.tup (xs.map .int)) st = .ok (.bl (!neg)) st := by
  have h : pyD st (.tup (xs.map .int)) = some (pyT xs) := by
    show (pyDs st (xs.map .int)).map PyData.tuple = _
    rw [pyDs_ints]
    rfl
  have d : (pyT xs).depth ≤ 60 := by
    unfold pyT
    simp [PyData.depth, depth_ints]
  have pl : (pyT xs).plain = true := plain_ints2 xs
  rw [eq_gen h h (by omega), PySem.SeqAt.eqv_refl_plain _ pl]
  cases neg <;> rfl
theorem eq_pairs {ps : List (Nat × Nat)} {neg : Bool} {st : Sto} : eqD neg (.lst (pairs ps)) (.lst (pairs ps)) st = .ok (.bl (!neg)) st := by
  have e : pairs ps = (ps.map fun p => [(p.1 : Int), (p.2 : Int)]).map fun r => .tup (r.map .int) := by
    unfold pairs
    rw [List.map_map]
    rfl
  rw [e, eq_tups]
abbrev rowsD (rs : List (List Int)) : List D := rs.map fun xs => .lst (xs.map .int)
theorem rows_ok {b : SO} {k : Nat} (hb : BagOk b k) (hk : k < 2 ^ 45) {ss : List Sp2} (hn : ss.length ≤ 100) (hs : ∀ s ∈ ss, Sp s) (x0 : Option D) : ∃ (rs : List (List Int)) (b' : SO), BagOk b' (k + 600) ∧ (∀ xs ∈ rs, xs.length = ss.length ∧ lies ss xs = true) ∧ rs.length = 3 ∧
    eComp false (iR1 (eK (.int 3))) (gNm 14) bYes (eC m__law_row (aCons (eVar 1) (aCons (eVar 2) aNil))) [14] [x0, some (.ref 0), some (.lst (encs ss)), none, none, none, none, none, none, none, none, none, none, none, none] [b] = .ok (.lst (rowsD rs)) [b'] := by
  have h1 : iR1 (eK (.int 3)) [x0, some (.ref 0), some (.lst (encs ss)), none, none, none, none, none, none, none, none, none, none, none, none] [b] = .ok (.fz (rangeD 0 3)) [b] := by
    simp only [ev_sSeq, ev_sNil, ev_sIf, ev_sSet, ev_sDrop, ev_sRet, ev_sRetN, ev_sSetIx, ev_sAug, ev_bAnd, ev_bOr, ev_bNot, ev_bYes, ev_tru, ev_toB, ev_e2, ev_eVar, ev_eK, ev_eC, ev_eC0, ev_aCons, ev_aNil, ev_eIf, ev_eAnd, ev_eOr, ev_eNot, ev_eSl, ev_oSome, ev_oNone, ev_eFld, ev_eMeth, ev_eBM, ev_iVal, ev_iR1, ev_iR2, ev_gNm, ev_mkL_f, ev_mkL_t, ev_wipe0, ev_wipe1, ev_eLst0, ev_eTup0, List.getElem?_cons_succ, List.getElem?_cons_zero, List.set_cons_succ, List.set_cons_zero, Res.bind_ok, toS_ok, seq_nx, seq_rt, seq_bk, seq_ct, tru_bl, Bool.not_true, Bool.not_false, Bool.false_eq_true, Bool.true_eq_false, if_true, if_false, ND.ix_tup, ix_lst, at_0, at_1, at_2, at_3, at_4, ND.len_tup, ND.len_lst, eq_int, eq_bl, op_addI, op_subI, op_ltI, op_leI, op_gtI, op_geI, op_addX_i, op_addX_s, op_addX_l, op_addX_t, op_mulX_i, op_mulX_l, op_isN_non, op_isN_tup, op_isN_lst, op_isN_ins, op_isB, sl_lst, int_int, int_bl, i1_int, i2f_int, src_tup, src_lst, negI, decide_true, decide_false]
    exact rng1_nat (n := 3) (by decide)
  obtain ⟨acc, s2, e, rs, b', p1, p2, p3, p4, p5⟩ := eComp_gen (lv := false) (ds := rangeD 0 3) (g := gNm 14) (t := bYes) (me := eC m__law_row (aCons (eVar 1) (aCons (eVar 2) aNil))) (vs := [14]) h1 rfl
    (fun i acc s => ∃ (rs : List (List Int)) (b' : SO), BagOk b' (k + 200 * i) ∧ (∀ xs ∈ rs, xs.length = ss.length ∧ lies ss xs = true) ∧ rs.length = i ∧ acc = rowsD rs ∧ s = [b'])
    ⟨[], b, hb, fun _ h => absurd h List.not_mem_nil, rfl, rfl, rfl⟩ (fun _ _ _ _ => rfl) (fun i d acc s hd ⟨rs, b', p1, p2, p3, p4, p5⟩ => by
      subst p4 p5
      have hi := (range_get hd).2
      obtain ⟨xs, b2, q1, q2, q3, q4⟩ := row_ok p1 (by omega) hn hs []
      refine ⟨_, rfl, .inl ⟨_, .lst (xs.map .int), [b2], rfl, by simp only [ev_sSeq, ev_sNil, ev_sIf, ev_sSet, ev_sDrop, ev_sRet, ev_sRetN, ev_sSetIx, ev_sAug, ev_bAnd, ev_bOr, ev_bNot, ev_bYes, ev_tru, ev_toB, ev_e2, ev_eVar, ev_eK, ev_eC, ev_eC0, ev_aCons, ev_aNil, ev_eIf, ev_eAnd, ev_eOr, ev_eNot, ev_eSl, ev_oSome, ev_oNone, ev_eFld, ev_eMeth, ev_eBM, ev_iVal, ev_iR1, ev_iR2, ev_gNm, ev_mkL_f, ev_mkL_t, ev_wipe0, ev_wipe1, ev_eLst0, ev_eTup0, List.getElem?_cons_succ, List.getElem?_cons_zero, List.set_cons_succ, List.set_cons_zero, Res.bind_ok, toS_ok, seq_nx, seq_rt, seq_bk, seq_ct, tru_bl, Bool.not_true, Bool.not_false, Bool.false_eq_true, Bool.true_eq_false, if_true, if_false, ND.ix_tup, ix_lst, at_0, at_1, at_2, at_3, at_4, ND.len_tup, ND.len_lst, eq_int, eq_bl, op_addI, op_subI, op_ltI, op_leI, op_gtI, op_geI, op_addX_i, op_addX_s, op_addX_l, op_addX_t, op_mulX_i, op_mulX_l, op_isN_non, op_isN_tup, op_isN_lst, op_isN_ins, op_isB, sl_lst, int_int, int_bl, i1_int, i2f_int, src_tup, src_lst, negI, decide_true, decide_false, q4], by rw [List.length_map]; omega, rs ++ [xs], b2, q1.mono (by omega), fun ys hy => ?_, by rw [List.length_append, p3]; rfl, by unfold rowsD; rw [List.map_append]; rfl, rfl⟩⟩
      rcases List.mem_append.mp hy with hy | hy
      · exact p2 ys hy
      · rw [List.mem_singleton.mp hy]
        exact ⟨q2, q3⟩)
  subst p4 p5
  exact ⟨rs, b', p1, p2, p3, e⟩
theorem rev_map {α : Type} (f : α → D) (xs : List α) : (xs.map f).reverse = xs.reverse.map f := by rw [List.map_reverse]
theorem law_true (ns : List Int) (h : ns.length ≤ 63) : ∃ st, m_law [.ext ns] [] = .ok (.bl true) st := by
  obtain ⟨b0, hb0, e0⟩ := bag_ok ns h
  obtain ⟨ss, b1, hb1, h0, hn, hv0, e1⟩ := chain_ok hb0 (by decide) []
  have hv : Vd ss := fun s hs => (hv0 s hs).2.1
  obtain ⟨rs, b2, hb2, hrs, _, er⟩ := rows_ok hb1 (by decide) (ss := ss) (by omega) hv0 (some (.ext ns))
  obtain ⟨b3, hb3, e3⟩ := made_ok hb2 (by decide) (ss := ss) (by omega) hv []
  have e4 := runsL_ok (ss := ss) h0 (by omega) (r := [b3])
  have sg := segs_runs h0 hv
  obtain ⟨xs, x1, x2, _⟩ := way_ok (ss := ss) hv h0 (by omega) (r := [])
  have way : ∀ r : Sto, m_way [.tup (spans ss)] r = .ok (.tup (xs.map .int)) r := fun r => by
    obtain ⟨ys, y1, _, y3⟩ := way_ok (ss := ss) hv h0 (by omega) (r := r)
    rw [y3, stops_uni _ _ _ _ _ y1 x1]
  have hr0 : 0 < ss.reverse.length := by rw [List.length_reverse]; exact h0
  obtain ⟨zs, z1, z2, _⟩ := way_ok (ss := ss.reverse) (vd_rev hv) hr0 (by rw [List.length_reverse]; omega) (r := [])
  have wayR : ∀ r : Sto, m_way [.tup (spans ss.reverse)] r = .ok (.tup (zs.map .int)) r := fun r => by
    obtain ⟨ys, y1, _, y3⟩ := way_ok (ss := ss.reverse) (vd_rev hv) hr0 (by rw [List.length_reverse]; omega) (r := r)
    rw [y3, stops_uni _ _ _ _ _ y1 z1]
  have lx := lies_of sg x1
  have lz := lies_of (segs_runs hr0 (vd_rev hv)) z1
  have bx := way_bends hv h0 x1
  have bz := way_bends (vd_rev hv) hr0 z1
  have rr1 := runs_rev_le hv h0 x2 x1
  have rr2 := runs_rev_le (vd_rev hv) hr0 z2 z1
  rw [List.reverse_reverse] at rr2
  rw [List.length_reverse] at z2
  have i1 : lenD [.ref 1] ([b3, .lst (pairs (runsL ss))] : Sto) = .ok (.int (runsL ss).length) [b3, .lst (pairs (runsL ss))] := by
    rw [len_ref]
    show Res.ok (D.int ((pairs (runsL ss)).length : Nat)) _ = _
    unfold pairs
    rw [List.length_map]
  have hk : ([b3, .lst (pairs (runsL ss))] : Sto)[1]? = some (.lst (pairs (runsL ss))) := rfl
  have ar := are_ok (ss := ss) (by omega) sg hk
  obtain ⟨ws, w1, due⟩ := due_ok (ss := ss) (by omega) sg hk
  rw [stops_uni _ _ _ _ _ w1 x1] at due
  have few := fewest_ok (ss := ss) hv h0 (by omega) (r := [b3, .lst (pairs (runsL ss))])
  have l1 := lies_ok (ss := ss) x2 (by omega) lx (st := [b3, .lst (pairs (runsL ss))])
  have bnd : ∀ st : Sto, m_bends [.tup (xs.map .int)] st = .ok (.int (bendsN xs : Nat)) st := fun st => bends_ok (by omega) (by omega)
  have zb : ((bendsN xs : Nat) : Int) = ((runsL ss).length : Int) - 1 := by omega
  generalize hS : ([b3, .lst (pairs (runsL ss))] : Sto) = S at *
  generalize hF : ((runsL ss).length : Int) - 1 = F at *
  have a1 : m_law [.ext ns] [] = fnEnd false [] (y_law [some (.ext ns), none, none, none, none, none, none, none, none, none, none, none, none, none, none] []) := rfl
  have a2 : y_law [some (.ext ns), none, none, none, none, none, none, none, none, none, none, none, none, none, none] [] = y_law_11 [some (.ext ns), some (.ref 0), some (.lst (encs ss)), some (.lst (rowsD rs)), some (.tup (spans ss)), some (.ref 1), some (.tup (xs.map .int)), some (.int F), some (.int F), none, none, none, none, none, none] S := by
    have e4' : mL_runs [.tup (spans ss)] [b3] = .ok (.ref 1) S := by rw [← hS]; exact e4
    have t1 : ((runsL ss).length : Int) = F + 1 := by omega
    have t2 : decide (F + 1 = F + 1) = true := decide_eq_true rfl
    have wh : ∀ (x : Int) (st : Sto), m__law_whole [.int x] st = .ok (.bl true) st := fun _ _ => whole_ok
    simp only [y_law, y_law_1, y_law_2, y_law_3, y_law_4, y_law_5, y_law_6, y_law_7, y_law_8, y_law_9, y_law_10, ev_sSeq, ev_sNil, ev_sIf, ev_sSet, ev_sDrop, ev_sRet, ev_sRetN, ev_sSetIx, ev_sAug, ev_bAnd, ev_bOr, ev_bNot, ev_bYes, ev_tru, ev_toB, ev_e2, ev_eVar, ev_eK, ev_eC, ev_eC0, ev_aCons, ev_aNil, ev_eIf, ev_eAnd, ev_eOr, ev_eNot, ev_eSl, ev_oSome, ev_oNone, ev_eFld, ev_eMeth, ev_eBM, ev_iVal, ev_iR1, ev_iR2, ev_gNm, ev_mkL_f, ev_mkL_t, ev_wipe0, ev_wipe1, ev_eLst0, ev_eTup0, List.getElem?_cons_succ, List.getElem?_cons_zero, List.set_cons_succ, List.set_cons_zero, Res.bind_ok, toS_ok, seq_nx, seq_rt, seq_bk, seq_ct, tru_bl, Bool.not_true, Bool.not_false, Bool.false_eq_true, Bool.true_eq_false, if_true, if_false, ND.ix_tup, ix_lst, at_0, at_1, at_2, at_3, at_4, ND.len_tup, ND.len_lst, eq_int, eq_bl, op_addI, op_subI, op_ltI, op_leI, op_gtI, op_geI, op_addX_i, op_addX_s, op_addX_l, op_addX_t, op_mulX_i, op_mulX_l, op_isN_non, op_isN_tup, op_isN_lst, op_isN_ins, op_isB, sl_lst, int_int, int_bl, i1_int, i2f_int, src_tup, src_lst, negI, decide_true, decide_false, e0, e1, er, e3, e4', ar, way, l1, due, eq_tupI, few, bnd, zb, wh, i1, t1]
  have h1 : iVal (eVar 3) [some (.ext ns), some (.ref 0), some (.lst (encs ss)), some (.lst (rowsD rs)), some (.tup (spans ss)), some (.ref 1), some (.tup (xs.map .int)), some (.int F), some (.int F), none, none, none, none, none, none] S = .ok (.fz (rowsD rs)) S := rfl
  obtain ⟨e5, s5, hf, y8, y9, q1, q2⟩ := for_allF (g := gNm 9) (body := l1_law) h1
    (fun i env s => ∃ y8 y9, env = [some (.ext ns), some (.ref 0), some (.lst (encs ss)), some (.lst (rowsD rs)), some (.tup (spans ss)), some (.ref 1), some (.tup (xs.map .int)), some (.int F), y8, y9, none, none, none, none, none] ∧ S = s)
    ⟨_, _, rfl, rfl⟩ (fun i d env s hd ⟨y8, y9, q1, q2⟩ => by
      subst q1 q2
      obtain ⟨us, hu, rfl, hi⟩ := get_map hd
      obtain ⟨u1, u2⟩ := hrs us (List.mem_of_getElem? hu)
      have lo := least_ok hv h0 u1 u2
      have c1 : m_bends [.tup (us.map .int)] S = .ok (.int (bendsN us : Nat)) S := bends_ok (by omega) (by omega)
      have c2 : m__law_bends [.lst (us.map .int)] S = .ok (.int (bendsN us : Nat)) S := lbends_ok (by omega) (by omega)
      have n1 : ¬ ((bendsN us : Nat) : Int) < F := by omega
      exact ⟨_, rfl, _, _, .inl (by simp only [l1_law, l1_law_1, ev_sSeq, ev_sNil, ev_sIf, ev_sSet, ev_sDrop, ev_sRet, ev_sRetN, ev_sSetIx, ev_sAug, ev_bAnd, ev_bOr, ev_bNot, ev_bYes, ev_tru, ev_toB, ev_e2, ev_eVar, ev_eK, ev_eC, ev_eC0, ev_aCons, ev_aNil, ev_eIf, ev_eAnd, ev_eOr, ev_eNot, ev_eSl, ev_oSome, ev_oNone, ev_eFld, ev_eMeth, ev_eBM, ev_iVal, ev_iR1, ev_iR2, ev_gNm, ev_mkL_f, ev_mkL_t, ev_wipe0, ev_wipe1, ev_eLst0, ev_eTup0, List.getElem?_cons_succ, List.getElem?_cons_zero, List.set_cons_succ, List.set_cons_zero, Res.bind_ok, toS_ok, seq_nx, seq_rt, seq_bk, seq_ct, tru_bl, Bool.not_true, Bool.not_false, Bool.false_eq_true, Bool.true_eq_false, if_true, if_false, ND.ix_tup, ix_lst, at_0, at_1, at_2, at_3, at_4, ND.len_tup, ND.len_lst, eq_int, eq_bl, op_addI, op_subI, op_ltI, op_leI, op_gtI, op_geI, op_addX_i, op_addX_s, op_addX_l, op_addX_t, op_mulX_i, op_mulX_l, op_isN_non, op_isN_tup, op_isN_lst, op_isN_ins, op_isB, sl_lst, int_int, int_bl, i1_int, i2f_int, src_tup, src_lst, negI, decide_true, decide_false, ND.tup_lst, c1, whole_ok, c2, decide_eq_false n1]), some (.int (bendsN us : Nat)), some (.lst (us.map .int)), rfl, rfl⟩)
  subst q1 q2
  have c3 : m__law_lies [.lst (encs ss.reverse), .tup (zs.map .int)] S = .ok (.bl true) S := lies_ok (by rw [List.length_reverse]; exact z2) (by rw [List.length_reverse]; omega) lz
  have c4 : m__law_bends [.tup (zs.map .int)] S = .ok (.int F) S := by
    rw [lbendsT_ok (by omega) (by omega)]
    congr 2
    omega
  have rv1 : ∀ st : Sto, revD false (.tup (spans ss)) st = .ok (.tup (spans ss.reverse)) st := fun st => by
    unfold spans
    rw [← rev_map]
    rfl
  have rv2 : ∀ st : Sto, revD false (.lst (encs ss)) st = .ok (.lst (encs ss.reverse)) st := fun st => by
    unfold encs
    rw [← rev_map]
    rfl
  have a3 : y_law_11 [some (.ext ns), some (.ref 0), some (.lst (encs ss)), some (.lst (rowsD rs)), some (.tup (spans ss)), some (.ref 1), some (.tup (xs.map .int)), some (.int F), some (.int F), none, none, none, none, none, none] S =
      y_law_16 [some (.ext ns), some (.ref 0), some (.lst (encs ss)), some (.lst (rowsD rs)), some (.tup (spans ss)), some (.ref 1), some (.tup (xs.map .int)), some (.int F), y8, y9, some (.tup (zs.map .int)), some (.int 0), none, none, none] S := by
    have eR : ∀ (i : Nat) (env : ND.Env) (st : Sto) (lv : Bool), eRev lv (eVar i) env st = ((eVar i env st).bind fun x s1 => revD lv x s1) := fun _ _ _ _ => rfl
    simp only [y_law_11, y_law_12, y_law_13, y_law_14, y_law_15, ev_sSeq, ev_sNil, ev_sIf, ev_sSet, ev_sDrop, ev_sRet, ev_sRetN, ev_sSetIx, ev_sAug, ev_bAnd, ev_bOr, ev_bNot, ev_bYes, ev_tru, ev_toB, ev_e2, ev_eVar, ev_eK, ev_eC, ev_eC0, ev_aCons, ev_aNil, ev_eIf, ev_eAnd, ev_eOr, ev_eNot, ev_eSl, ev_oSome, ev_oNone, ev_eFld, ev_eMeth, ev_eBM, ev_iVal, ev_iR1, ev_iR2, ev_gNm, ev_mkL_f, ev_mkL_t, ev_wipe0, ev_wipe1, ev_eLst0, ev_eTup0, List.getElem?_cons_succ, List.getElem?_cons_zero, List.set_cons_succ, List.set_cons_zero, Res.bind_ok, toS_ok, seq_nx, seq_rt, seq_bk, seq_ct, tru_bl, Bool.not_true, Bool.not_false, Bool.false_eq_true, Bool.true_eq_false, if_true, if_false, ND.ix_tup, ix_lst, at_0, at_1, at_2, at_3, at_4, ND.len_tup, ND.len_lst, eq_int, eq_bl, op_addI, op_subI, op_ltI, op_leI, op_gtI, op_geI, op_addX_i, op_addX_s, op_addX_l, op_addX_t, op_mulX_i, op_mulX_l, op_isN_non, op_isN_tup, op_isN_lst, op_isN_ins, op_isB, sl_lst, int_int, int_bl, i1_int, i2f_int, src_tup, src_lst, negI, decide_true, decide_false, hf, eR, rv1, rv2, wayR, c3, c4, bends0_ok, whole_ok]
  rw [a1, a2, a3]
  subst hS
  have l5 : listD false [.ref 1] ([b3, .lst (pairs (runsL ss))] : Sto) = .ok (.lst (pairs (runsL ss))) [b3, .lst (pairs (runsL ss))] := rfl
  have pl : (pairs (runsL ss)).length ≤ 1000 := by
    have := List.length_filter_le (bend xs) (List.range (xs.length - 1))
    rw [List.length_range] at this
    have : bendsN xs ≤ xs.length - 1 := this
    unfold pairs
    rw [List.length_map]
    omega
  have ap : appendD (.ref 1) [.tup [.int 0, .int 0]] ([b3, .lst (pairs (runsL ss))] : Sto) = .ok .non [b3, .lst (pairs (runsL ss) ++ [.tup [.int 0, .int 0]])] := app_at rfl (by omega)
  have h2 : Ok ((2 : Nat) ≤ sizeLine) := show 2 ≤ sizeLine by rw [sizeLine_eq]; decide
  have tu : ∀ (env : ND.Env) (st : Sto), eTup (aCons (eK (.int 0)) (aCons (eK (.int 0)) aNil)) env st = .ok (.tup [.int 0, .int 0]) st := fun env st => by
    rw [ev_eTup]
    simp only [ev_sSeq, ev_sNil, ev_sIf, ev_sSet, ev_sDrop, ev_sRet, ev_sRetN, ev_sSetIx, ev_sAug, ev_bAnd, ev_bOr, ev_bNot, ev_bYes, ev_tru, ev_toB, ev_e2, ev_eVar, ev_eK, ev_eC, ev_eC0, ev_aCons, ev_aNil, ev_eIf, ev_eAnd, ev_eOr, ev_eNot, ev_eSl, ev_oSome, ev_oNone, ev_eFld, ev_eMeth, ev_eBM, ev_iVal, ev_iR1, ev_iR2, ev_gNm, ev_mkL_f, ev_mkL_t, ev_wipe0, ev_wipe1, ev_eLst0, ev_eTup0, List.getElem?_cons_succ, List.getElem?_cons_zero, List.set_cons_succ, List.set_cons_zero, Res.bind_ok, toS_ok, seq_nx, seq_rt, seq_bk, seq_ct, tru_bl, Bool.not_true, Bool.not_false, Bool.false_eq_true, Bool.true_eq_false, if_true, if_false, ND.ix_tup, ix_lst, at_0, at_1, at_2, at_3, at_4, ND.len_tup, ND.len_lst, eq_int, eq_bl, op_addI, op_subI, op_ltI, op_leI, op_gtI, op_geI, op_addX_i, op_addX_s, op_addX_l, op_addX_t, op_mulX_i, op_mulX_l, op_isN_non, op_isN_tup, op_isN_lst, op_isN_ins, op_isB, sl_lst, int_int, int_bl, i1_int, i2f_int, src_tup, src_lst, negI, decide_true, decide_false, List.length_cons, List.length_nil, Nat.zero_add, Nat.reduceAdd, if_pos h2]
  have sr1 : seqL ([b3, .lst (pairs (runsL ss))] : Sto) (.ref 1) = some (pairs (runsL ss)) := rfl
  have a4 : y_law_16 [some (.ext ns), some (.ref 0), some (.lst (encs ss)), some (.lst (rowsD rs)), some (.tup (spans ss)), some (.ref 1), some (.tup (xs.map .int)), some (.int F), y8, y9, some (.tup (zs.map .int)), some (.int 0), none, none, none] [b3, .lst (pairs (runsL ss))] =
      y_law_19 [some (.ext ns), some (.ref 0), some (.lst (encs ss)), some (.lst (rowsD rs)), some (.tup (spans ss)), some (.ref 1), some (.tup (xs.map .int)), some (.int F), y8, y9, some (.tup (zs.map .int)), some (.int 0), some (.lst (pairs (runsL ss))), none, none] [b3, .lst (pairs (runsL ss) ++ [.tup [.int 0, .int 0]])] := by
    have ru : ∀ st : Sto, m_runs [.tup (spans ss)] st = .ok (.lst (pairs (runsL ss))) st := fun st => runs_ok h0 (by omega)
    simp only [y_law_16, y_law_17, y_law_18, ev_sSeq, ev_sNil, ev_sIf, ev_sSet, ev_sDrop, ev_sRet, ev_sRetN, ev_sSetIx, ev_sAug, ev_bAnd, ev_bOr, ev_bNot, ev_bYes, ev_tru, ev_toB, ev_e2, ev_eVar, ev_eK, ev_eC, ev_eC0, ev_aCons, ev_aNil, ev_eIf, ev_eAnd, ev_eOr, ev_eNot, ev_eSl, ev_oSome, ev_oNone, ev_eFld, ev_eMeth, ev_eBM, ev_iVal, ev_iR1, ev_iR2, ev_gNm, ev_mkL_f, ev_mkL_t, ev_wipe0, ev_wipe1, ev_eLst0, ev_eTup0, List.getElem?_cons_succ, List.getElem?_cons_zero, List.set_cons_succ, List.set_cons_zero, Res.bind_ok, toS_ok, seq_nx, seq_rt, seq_bk, seq_ct, tru_bl, Bool.not_true, Bool.not_false, Bool.false_eq_true, Bool.true_eq_false, if_true, if_false, ND.ix_tup, ix_lst, at_0, at_1, at_2, at_3, at_4, ND.len_tup, ND.len_lst, eq_int, eq_bl, op_addI, op_subI, op_ltI, op_leI, op_gtI, op_geI, op_addX_i, op_addX_s, op_addX_l, op_addX_t, op_mulX_i, op_mulX_l, op_isN_non, op_isN_tup, op_isN_lst, op_isN_ins, op_isB, sl_lst, int_int, int_bl, i1_int, i2f_int, src_tup, src_lst, negI, decide_true, decide_false, l5, tu, sr1, ap, ru, eq_pairs, way, eq_tupI]
  rw [a4]
  have hsl : (spans ss).length = ss.length := by unfold spans; rw [List.length_map]
  have hc : ∀ (y8 y9 : Option D) (st : Sto), eComp false (iVal (eVar 4)) (gNm 13) bYes (eLst false (aCons (eFld ftL "low" (eVar 13)) (aCons (eFld ftL "high" (eVar 13)) aNil))) [13] [some (.ext ns), some (.ref 0), some (.lst (encs ss)), some (.lst (rowsD rs)), some (.tup (spans ss)), some (.ref 1), some (.tup (xs.map .int)), some (.int F), y8, y9, some (.tup (zs.map .int)), some (.int 0), some (.lst (pairs (runsL ss))), none, none] st = .ok (.lst (encs ss)) st := fun y8 y9 st => by
    rw [eComp_pure (ds := spans ss) (s1 := st) rfl (fun d => match d with
      | .ins _ _ zs => .lst zs
      | d => d) (fun _ => true) (by omega) (fun d hd => by
        obtain ⟨s, _, rfl⟩ := List.mem_map.mp hd
        exact ⟨_, rfl, rfl, fun _ => by simp [spanD, ftL, fget]⟩), List.filter_eq_self.mpr (fun _ _ => rfl)]
    unfold spans encs
    rw [List.map_map]
    rfl
  have a5 : ∀ st : Sto, y_law_19 [some (.ext ns), some (.ref 0), some (.lst (encs ss)), some (.lst (rowsD rs)), some (.tup (spans ss)), some (.ref 1), some (.tup (xs.map .int)), some (.int F), y8, y9, some (.tup (zs.map .int)), some (.int 0), some (.lst (pairs (runsL ss))), none, none] st = .rt (.bl true) st := fun st => by
    simp only [y_law_19, ev_sSeq, ev_sNil, ev_sIf, ev_sSet, ev_sDrop, ev_sRet, ev_sRetN, ev_sSetIx, ev_sAug, ev_bAnd, ev_bOr, ev_bNot, ev_bYes, ev_tru, ev_toB, ev_e2, ev_eVar, ev_eK, ev_eC, ev_eC0, ev_aCons, ev_aNil, ev_eIf, ev_eAnd, ev_eOr, ev_eNot, ev_eSl, ev_oSome, ev_oNone, ev_eFld, ev_eMeth, ev_eBM, ev_iVal, ev_iR1, ev_iR2, ev_gNm, ev_mkL_f, ev_mkL_t, ev_wipe0, ev_wipe1, ev_eLst0, ev_eTup0, List.getElem?_cons_succ, List.getElem?_cons_zero, List.set_cons_succ, List.set_cons_zero, Res.bind_ok, toS_ok, seq_nx, seq_rt, seq_bk, seq_ct, tru_bl, Bool.not_true, Bool.not_false, Bool.false_eq_true, Bool.true_eq_false, if_true, if_false, ND.ix_tup, ix_lst, at_0, at_1, at_2, at_3, at_4, ND.len_tup, ND.len_lst, eq_int, eq_bl, op_addI, op_subI, op_ltI, op_leI, op_gtI, op_geI, op_addX_i, op_addX_s, op_addX_l, op_addX_t, op_mulX_i, op_mulX_l, op_isN_non, op_isN_tup, op_isN_lst, op_isN_ins, op_isB, sl_lst, int_int, int_bl, i1_int, i2f_int, src_tup, src_lst, negI, decide_true, decide_false, hc, eq_encs]
  rw [a5, end_rt_f]
  exact ⟨[], fin_none (r := []) (ex := [b3, .lst (pairs (runsL ss) ++ [.tup [.int 0, .int 0]])]) rfl⟩
end K75
namespace K75
open PySem PySem.Spec PyProof.Rows L2 ND
abbrev R0 : PySem.W.OpenRow := PySem.W.OpenLaw.row PySem.Challenge.rw_drawnlayers_k75_whole_fewest_bends
abbrev hk : PySem.W.Hook := He.hookX 5 fa fn [] [] (xfB xf)
def ob (s : PySem.W.SharedT) : He.AlX := He.obsX 5 fa fn [] [] (xfB xf) (HandSHeadRun.getT s)
theorem ob_eq (s : PySem.W.SharedT) : ob s = hk.obs s.abs := He.obsX_eq (HandSHeadRun.getT_eq s)
abbrev lo : List PySem.Str := (["DrawError", "EmptySpan", "Span", "common", "runs", "way", "bends", "_law_bag", "_law_draw", "_law_pick", "_law_whole", "_law_wholes", "_law_far", "_law_beside", "_law_chain", "_law_row", "_law_shared", "_law_are_runs", "_law_due_way", "_law_fewest", "_law_bends", "_law_lies", "_law_made"] : List PySem.Str)
theorem run (w : World) : HandSHeadRun.RunEq R0 (PySem.W.view R0.prog [27]) hk ob 30000 lo w := by
  intro os
  kernel_rfl
theorem law_ok {P : Program} {w : World} {K : PySem.W.Frag} {mg : Str → Option Value} {base : Heap} {f : Addr} (C : HC fa fn xf w K mg) (hf : mg ("law" : Str) = some (.ref f)) :
    ∃ fd : FuncData, (∀ (s : PySem.Shared) (v : Value), BindsTo s fd ⟨[v], []⟩ [("script", v)]) ∧ ∀ base : Heap, FnOk P w K mg base (L2.CX P w) 6 f fd ["script"] (spM K m_law) := by
  obtain ⟨fd, F⟩ := C.def_ (fn.length - 1) (d := dd_law) rfl
  have F : FunD K "law" "law" (defArgs s_law) (defBody s_law) (defScope s_law) [] [] (He.fAd K ("law", none)) fd := F
  have e : f = He.fAd K ("law", none) := by
    obtain ⟨f', hf', _⟩ := (g_law (P := P) (base := base) C).ex
    have g := C.glo iLaw rfl
    have g2 := hf.symm.trans g
    cases g2
    rfl
  subst e
  have b := FunD.bindsA (ps := ["script"]) F fun _ _ _ _ _ _ us hl => match us, hl with | [_], _ => rfl
  exact ⟨fd, fun s v => b s [v] rfl, fun base => o_law C F⟩
end K75
open PySem PySem.W PySem.Calls PyProof.Rows
theorem PySem.Challenge.cw_drawnlayers_k75_whole_fewest_bends_holds : PySem.Challenge.rw_drawnlayers_k75_whole_fewest_bends.Holds := by
  w_on; o_law
  refine HandSHeadRun.head_any (r := OpenLaw.row PySem.Challenge.rw_drawnlayers_k75_whole_fewest_bends) (q := view (OpenLaw.row PySem.Challenge.rw_drawnlayers_k75_whole_fewest_bends).prog [27]) (H := K75.hk) (ob := K75.ob) (M := 30000) (loose := K75.lo) (d := HandSHeadRun.topDef (OpenLaw.row PySem.Challenge.rw_drawnlayers_k75_whole_fewest_bends).prog 27) (kwd := []) K75.ob_eq
    (by kernel_rfl) (fun s => by kernel_rfl) K75.run (by kernel_rfl) (by kernel_rfl) (by kernel_rfl) (by rfl) (by first | assumption | decide +kernel) (by decide +kernel) ⟨rfl, rfl, rfl, rfl, rfl, by decide +kernel⟩ ?hw ?hc
  case hw => w_witness2
  case hc =>
    refine ND.walk_ofX (l := PySem.Challenge.rw_drawnlayers_k75_whole_fewest_bends) (n := 63) (k := 6) (x := "script") (CX := fun w => L2.CX (PySem.Challenge.rw_drawnlayers_k75_whole_fewest_bends).prog w) rfl (by decide) (by kernel_rfl) ⟨rfl, by decide, by decide⟩ ?F ?hx
    case hx =>
      rintro w H s e s' ⟨a, B, H', cls, d, _, _, _, _, _, _, _, z⟩
      exact z
    intro w mg fa h Y G hmg0
    obtain ⟨K, KX, c⟩ := Y
    have hmg : mg ("law" : PySem.Str) = some (.ref fa) := by
      have e : (HandSHeadRun.topDef (OpenLaw.row PySem.Challenge.rw_drawnlayers_k75_whole_fewest_bends).prog 27).name = ("law" : PySem.Str) := by kernel_rfl
      rw [← e]
      exact hmg0
    obtain ⟨fd, hb, hF⟩ := K75.law_ok (P := (PySem.Challenge.rw_drawnlayers_k75_whole_fewest_bends).prog) (base := h) ⟨h, KX, G, c⟩ hmg
    refine ⟨K, fd, ND.spM K K75.m_law, KX, hb, fun H a ns hl _ hS => ?_, fun base _ _ => hF base⟩
    obtain ⟨st, e⟩ := K75.law_true ns hl
    exact ND.sp_of hS e
