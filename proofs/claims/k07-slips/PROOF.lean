import PyProof.Rows.All
import Wide.All
import OpenK.AllK
import Wide.FinOn
import HandS.ForMost
import HandS.ForExc
import HandS.DictTup
import HandS.DictComp
import HandS.Star
import HandS.Style
import HandS.Flow
import HandS.Zip
import HandS.Conv
import HandS.TupSets
import HandS.TupAny
import HandS.SortInts
import HandS.SortRule
import HandS.IsInst
import HandS.Deep
import HandS.Wide
import HandS.EndBits
import HandS.More
import PyProof.ReprRoads
import KE.KDictPairs
import KE.IntBitsLaws
import PyProof.ReprLen
import PySem.Challenge.RW_nothingfalls_k07_whole_slips_up_to_five
set_option Elab.async false
set_option linter.all false
set_option maxRecDepth 100000
/-! The data layer: values as data, slots as data; what a heap bears of them. -/
namespace DL
open PySem PySem.Spec PyProof.Rows L2

/-- data: what a value is worth, whatever the heap -/
inductive D where
  | non
  | bl (b : Bool)
  | int (i : Int)
  | str (x : Str)
  | tup (xs : List D)
  | ptp (xs : List D)
  | lst (xs : List D)
  | frl (xs : List D)
  | dK (kvs : List (Key × D))
  | dT (kvs : List (List Key × D))

/-- addresses to be kept clear of; the written part in which a list may stand -/
structure Ax where
  K : PySem.W.Frag
  p : Addr → Prop
instance : CoeFun Ax (fun _ => Addr → Prop) := ⟨Ax.p⟩
/-- a list of the written part -/
def KL (K : PySem.W.Frag) (a : Addr) (xs : List V) : Prop :=
  ∃ (o : Obj) (its : Array Value) (n : Nat), K.lookup a = some o ∧ o.cls = .type "list" ∧ o.dict = none ∧ o.data = .seq its n ∧ its.size ≤ sizeLine ∧ Vals xs its.toList

/-- a tuple, or a tuple whose object is known -/
def isTp : HO → Bool
  | .tup _ => true
  | .frz _ (.tup _) => true
  | _ => false
abbrev TpO := { u : HO // isTp u = true }
mutual
/-- the value v is worth d, nothing of it at an address of A -/
inductive IsD (H : Hp) (A : Ax) : V → D → Prop
  | non : IsD H A .non .non
  | bl (b : Bool) : IsD H A (.bl b) (.bl b)
  | int (i : Int) : IsD H A (.int i) (.int i)
  | str (x : Str) : IsD H A (.str x) (.str x)
  | tup {a : Addr} {xs : List V} {ds : List D} : H a = some (.tup xs) → ¬ A a → IsDs H A xs ds → IsD H A (.ref a) (.tup ds)
  | ptp {a : Addr} {o : Obj} {xs : List V} {ds : List D} : H a = some (.frz o (.tup xs)) → o.dict = none → ¬ A a → IsDs H A xs ds → IsD H A (.ref a) (.ptp ds)
  | lst {a : Addr} {xs : List V} {ds : List D} : H a = some (.lst xs) → ¬ A a → IsDs H A xs ds → IsD H A (.ref a) (.lst ds)
  | frl {a : Addr} {xs : List V} {ds : List D} : (Rd H a (.lst xs) ∧ ¬ A a) ∨ KL A.K a xs → IsDs H A xs ds → IsD H A (.ref a) (.frl ds)
  | dK {a : Addr} {kvs : List (Key × V)} {ds : List (Key × D)} : Rd H a (.dK kvs) → ¬ A a → IsKs H A kvs ds → IsD H A (.ref a) (.dK ds)
  | dT {a : Addr} {kvs : List (List Key × V)} {ds : List (List Key × D)} : Rd H a (.dT kvs) → ¬ A a → IsTs H A kvs ds → IsD H A (.ref a) (.dT ds)
inductive IsDs (H : Hp) (A : Ax) : List V → List D → Prop
  | nil : IsDs H A [] []
  | cons {v : V} {d : D} {vs : List V} {ds : List D} : IsD H A v d → IsDs H A vs ds → IsDs H A (v :: vs) (d :: ds)
inductive IsKs (H : Hp) (A : Ax) : List (Key × V) → List (Key × D) → Prop
  | nil : IsKs H A [] []
  | cons {k : Key} {v : V} {d : D} {vs : List (Key × V)} {ds : List (Key × D)} : IsD H A v d → IsKs H A vs ds → IsKs H A ((k, v) :: vs) ((k, d) :: ds)
inductive IsTs (H : Hp) (A : Ax) : List (List Key × V) → List (List Key × D) → Prop
  | nil : IsTs H A [] []
  | cons {k : List Key} {v : V} {d : D} {vs : List (List Key × V)} {ds : List (List Key × D)} : IsD H A v d → IsTs H A vs ds → IsTs H A ((k, v) :: vs) ((k, d) :: ds)
end

/-- what stood free of A is kept, free of A' -/
structure Kp (H : Hp) (A : Ax) (H' : Hp) (A' : Ax) : Prop where
  kk : A'.K = A.K
  tp : ∀ a (u : TpO), H a = some u.1 → ¬ A a → H' a = some u.1
  ls : ∀ a xs, H a = some (.lst xs) → ¬ A a → H' a = some (.lst xs)
  rd : ∀ a u, Rd H a u → ¬ A a → Rd H' a u
  av : ∀ a, H a ≠ none → ¬ A a → ¬ A' a
/-- .. each object itself -/
structure Kx (H : Hp) (A : Ax) (H' : Hp) (A' : Ax) : Prop where
  kk : A'.K = A.K
  keep : ∀ a o, H a = some o → ¬ A a → H' a = some o
  av : ∀ a, H a ≠ none → ¬ A a → ¬ A' a
theorem Kx.kp {H H' : Hp} {A A' : Ax} (k : Kx H A H' A') : Kp H A H' A' := ⟨k.kk, fun a xs e n => k.keep a _ e n, fun a xs e n => k.keep a _ e n, fun a u e n => by
  rcases e with e | ⟨o, e⟩
  · exact .inl (k.keep a _ e n)
  · exact .inr ⟨o, k.keep a _ e n⟩, k.av⟩
theorem Rd.ne {H : Hp} {a : Addr} {u : HO} (r : Rd H a u) : H a ≠ none := by
  rcases r with r | ⟨o, r⟩ <;> (rw [r]; exact fun z => nomatch z)
theorem some_ne {H : Hp} {a : Addr} {u : HO} (r : H a = some u) : H a ≠ none := by rw [r]; exact fun z => nomatch z

mutual
theorem IsD.kp {H H' : Hp} {A A' : Ax} (k : Kp H A H' A') : ∀ {v : V} {d : D}, IsD H A v d → IsD H' A' v d
  | _, _, .non => .non
  | _, _, .bl b => .bl b
  | _, _, .int i => .int i
  | _, _, .str x => .str x
  | _, _, .tup r n s => .tup (k.tp _ ⟨.tup _, rfl⟩ r n) (k.av _ (some_ne r) n) (IsDs.kp k s)
  | _, _, .ptp r h n s => .ptp (k.tp _ ⟨.frz _ (.tup _), rfl⟩ r n) h (k.av _ (some_ne r) n) (IsDs.kp k s)
  | _, _, .lst r n s => .lst (k.ls _ _ r n) (k.av _ (some_ne r) n) (IsDs.kp k s)
  | _, _, .frl r s => .frl (r.elim (fun z => .inl ⟨k.rd _ _ z.1 z.2, k.av _ (Rd.ne z.1) z.2⟩) fun z => .inr (k.kk.symm ▸ z)) (IsDs.kp k s)
  | _, _, .dK r n s => .dK (k.rd _ _ r n) (k.av _ (Rd.ne r) n) (IsKs.kp k s)
  | _, _, .dT r n s => .dT (k.rd _ _ r n) (k.av _ (Rd.ne r) n) (IsTs.kp k s)
theorem IsDs.kp {H H' : Hp} {A A' : Ax} (k : Kp H A H' A') : ∀ {vs : List V} {ds : List D}, IsDs H A vs ds → IsDs H' A' vs ds
  | _, _, .nil => .nil
  | _, _, .cons h t => .cons (IsD.kp k h) (IsDs.kp k t)
theorem IsKs.kp {H H' : Hp} {A A' : Ax} (k : Kp H A H' A') : ∀ {vs : List (Key × V)} {ds : List (Key × D)}, IsKs H A vs ds → IsKs H' A' vs ds
  | _, _, .nil => .nil
  | _, _, .cons h t => .cons (IsD.kp k h) (IsKs.kp k t)
theorem IsTs.kp {H H' : Hp} {A A' : Ax} (k : Kp H A H' A') : ∀ {vs : List (List Key × V)} {ds : List (List Key × D)}, IsTs H A vs ds → IsTs H' A' vs ds
  | _, _, .nil => .nil
  | _, _, .cons h t => .cons (IsD.kp k h) (IsTs.kp k t)
end
theorem IsDs.length {H : Hp} {A : Ax} : ∀ {vs : List V} {ds : List D}, IsDs H A vs ds → vs.length = ds.length
  | _, _, .nil => rfl
  | _, _, .cons _ t => by rw [List.length_cons, List.length_cons, IsDs.length t]
theorem IsDs.get {H : Hp} {A : Ax} : ∀ {vs : List V} {ds : List D} {i : Nat} {d : D}, IsDs H A vs ds → ds[i]? = some d → ∃ v, vs[i]? = some v ∧ IsD H A v d
  | _, _, _, _, .nil, e => by simp at e
  | _, _, 0, _, .cons h _, e => by simp at e; subst e; exact ⟨_, rfl, h⟩
  | _, _, i + 1, _, .cons _ t, e => by
    obtain ⟨v, h1, h2⟩ := IsDs.get (i := i) t (by simpa using e)
    exact ⟨v, by simpa using h1, h2⟩
theorem IsDs.append {H : Hp} {A : Ax} : ∀ {vs us : List V} {ds es : List D}, IsDs H A vs ds → IsDs H A us es → IsDs H A (vs ++ us) (ds ++ es)
  | _, _, _, _, .nil, s => s
  | _, _, _, _, .cons h t, s => .cons h (IsDs.append t s)
theorem IsDs.take {H : Hp} {A : Ax} : ∀ {vs : List V} {ds : List D} (n : Nat), IsDs H A vs ds → IsDs H A (vs.take n) (ds.take n)
  | _, _, 0, _ => .nil
  | _, _, _ + 1, .nil => .nil
  | _, _, n + 1, .cons h t => .cons h (IsDs.take n t)
theorem IsDs.drop {H : Hp} {A : Ax} : ∀ {vs : List V} {ds : List D} (n : Nat), IsDs H A vs ds → IsDs H A (vs.drop n) (ds.drop n)
  | _, _, 0, r => r
  | _, _, _ + 1, .nil => .nil
  | _, _, n + 1, .cons _ t => IsDs.drop n t
theorem IsDs.set {H : Hp} {A : Ax} {v : V} {d : D} (r : IsD H A v d) : ∀ {vs : List V} {ds : List D} (i : Nat), IsDs H A vs ds → IsDs H A (vs.set i v) (ds.set i d)
  | _, _, _, .nil => .nil
  | _, _, 0, .cons _ t => .cons r t
  | _, _, i + 1, .cons q t => .cons q (IsDs.set r i t)
theorem IsDs.eraseIdx {H : Hp} {A : Ax} : ∀ {vs : List V} {ds : List D} (i : Nat), IsDs H A vs ds → IsDs H A (vs.eraseIdx i) (ds.eraseIdx i)
  | _, _, _, .nil => .nil
  | _, _, 0, .cons _ t => t
  | _, _, i + 1, .cons q t => .cons q (IsDs.eraseIdx i t)
theorem IsDs.dropLast {H : Hp} {A : Ax} {vs : List V} {ds : List D} (h : IsDs H A vs ds) : IsDs H A vs.dropLast ds.dropLast := by
  rw [List.dropLast_eq_take, List.dropLast_eq_take, h.length]
  exact h.take _
theorem IsDs.snoc {H : Hp} {A : Ax} {v : V} {d : D} {vs : List V} {ds : List D} (h : IsDs H A vs ds) (r : IsD H A v d) : IsDs H A (vs ++ [v]) (ds ++ [d]) := h.append (.cons r .nil)

/-! ### slots -/
/-- a slot: nothing known; data that nobody writes; a list or dict that this def writes (io: the caller's own) -/
inductive Sl where
  | un
  | val (d : D)
  | own (io : Bool) (d : D)
abbrev En := List Sl
abbrev Sg := L2.St
def Av (as : List (Option Addr)) (B : Ax) : Ax := ⟨B.K, fun a => some a ∈ as ∨ B a⟩
/-- a list or a dict -/
def isMu : HO → Bool
  | .lst _ => true
  | .dK _ => true
  | .dT _ => true
  | _ => false
def OwnAt (H : Hp) (A : Ax) (a : Addr) : D → Prop
  | .lst ds => ∃ xs, H a = some (.lst xs) ∧ IsDs H A xs ds
  | .dK ds => ∃ kvs, H a = some (.dK kvs) ∧ IsKs H A kvs ds
  | .dT ds => ∃ kvs, H a = some (.dT kvs) ∧ IsTs H A kvs ds
  | _ => False
theorem OwnAt.mu {H : Hp} {A : Ax} {a : Addr} : ∀ {d : D}, OwnAt H A a d → ∃ o, H a = some o ∧ isMu o = true
  | .lst _, ⟨_, h, _⟩ => ⟨_, h, rfl⟩
  | .dK _, ⟨_, h, _⟩ => ⟨_, h, rfl⟩
  | .dT _, ⟨_, h, _⟩ => ⟨_, h, rfl⟩
theorem OwnAt.ne {H : Hp} {A : Ax} {a : Addr} : ∀ {d : D}, OwnAt H A a d → H a ≠ none
  | .lst _, ⟨_, h, _⟩ => some_ne h
  | .dK _, ⟨_, h, _⟩ => some_ne h
  | .dT _, ⟨_, h, _⟩ => some_ne h
inductive SlOk (H : Hp) (A : Ax) : Option V → Sl → Option Addr → Prop
  | un {x : Option V} : SlOk H A x .un none
  | val {v : V} {d : D} : IsD H A v d → SlOk H A (some v) (.val d) none
  | own {a : Addr} {io : Bool} {d : D} : OwnAt H A a d → SlOk H A (some (.ref a)) (.own io d) (some a)
inductive SlsOk (H : Hp) (A : Ax) : Sg → En → List (Option Addr) → Prop
  | nil : SlsOk H A [] [] []
  | cons {x : Option V} {s : Sl} {o : Option Addr} {σ : Sg} {env : En} {as : List (Option Addr)} : SlOk H A x s o → SlsOk H A σ env as → SlsOk H A (x :: σ) (s :: env) (o :: as)
/-- what a def's whole run leans on: the addresses that others write, its io slots' addresses, the heap at its entry -/
structure Fm where
  B : Ax
  P : List (Nat × Addr)
  H0 : Hp
structure EnvOk (F : Fm) (H : Hp) (σ : Sg) (env : En) (as : List (Option Addr)) : Prop where
  sl : SlsOk H (Av as F.B) σ env as
  nd : ∀ (i j : Nat) (a : Addr), as[i]? = some (some a) → as[j]? = some (some a) → i = j
  ap : ∀ a, some a ∈ as → ¬ F.B a
  bd : ∀ a, F.B a → ∃ o, H a = some o ∧ isMu o = true
  pin : ∀ p ∈ F.P, as[p.1]? = some (some p.2) ∧ ∃ d, env[p.1]? = some (.own true d)
  io : ∀ (i : Nat) (d : D), env[i]? = some (.own true d) → ∃ a, (i, a) ∈ F.P
  fr : ∀ (i : Nat) (a : Addr) (d : D), as[i]? = some (some a) → env[i]? = some (.own false d) → F.H0 a = none
  dom : ∀ a, F.H0 a ≠ none → H a ≠ none
structure Step (as : List (Option Addr)) (H : Hp) (as' : List (Option Addr)) (H' : Hp) : Prop where
  keep : ∀ b o, H b = some o → some b ∉ as → H' b = some o
  dom : ∀ b, H b ≠ none → H' b ≠ none
  new : ∀ b, some b ∈ as' → some b ∈ as ∨ H b = none
theorem Step.refl (as : List (Option Addr)) (H : Hp) : Step as H as H := ⟨fun _ _ e _ => e, fun _ e => e, fun _ e => .inl e⟩
theorem Step.trans {as as1 as2 : List (Option Addr)} {H H1 H2 : Hp} (s : Step as H as1 H1) (t : Step as1 H1 as2 H2) : Step as H as2 H2 where
  keep := fun b o e n => t.keep b o (s.keep b o e n) fun z => by
    rcases s.new b z with z | z
    · exact n z
    · rw [e] at z; cases z
  dom := fun b e => t.dom b (s.dom b e)
  new := fun b z => by
    rcases t.new b z with z | z
    · exact s.new b z
    · refine .inr ?_
      cases q : H b with
      | none => rfl
      | some o => exact absurd z (s.dom b (by rw [q]; exact fun z => nomatch z))
theorem Step.kp {as as' : List (Option Addr)} {H H' : Hp} {B : Ax} (s : Step as H as' H') : Kp H (Av as B) H' (Av as' B) where
  kk := rfl
  tp := fun a xs e n => s.keep a _ e fun z => n (.inl z)
  ls := fun a xs e n => s.keep a _ e fun z => n (.inl z)
  rd := fun a u e n => by
    rcases e with e | ⟨o, e⟩
    · exact .inl (s.keep a _ e fun z => n (.inl z))
    · exact .inr ⟨o, s.keep a _ e fun z => n (.inl z)⟩
  av := fun a e n z => by
    rcases z with z | z
    · rcases s.new a z with z | z
      · exact n (.inl z)
      · exact e z
    · exact n (.inr z)
theorem Step.kx {as as' : List (Option Addr)} {H H' : Hp} {B : Ax} (s : Step as H as' H') : Kx H (Av as B) H' (Av as' B) := ⟨rfl, fun a o e n => s.keep a o e fun z => n (.inl z), s.kp.av⟩
theorem IsD.st {as as' : List (Option Addr)} {H H' : Hp} {B : Ax} {v : V} {d : D} (s : Step as H as' H') (h : IsD H (Av as B) v d) : IsD H' (Av as' B) v d := h.kp s.kp
theorem IsDs.st {as as' : List (Option Addr)} {H H' : Hp} {B : Ax} {v : List V} {d : List D} (s : Step as H as' H') (h : IsDs H (Av as B) v d) : IsDs H' (Av as' B) v d := h.kp s.kp
/-- the heap only grows -/
def Gr (H H' : Hp) : Prop := ∀ b o, H b = some o → H' b = some o
theorem Gr.refl (H : Hp) : Gr H H := fun _ _ e => e
theorem Gr.new {H : Hp} {p : Addr} {o : HO} (h : H p = none) : Gr H (upd H p o) := fun a u e => by
  rw [upd_ne (ne_of_none e h)]
  exact e
theorem Gr.dom {H H' : Hp} (g : Gr H H') : ∀ b, H b ≠ none → H' b ≠ none := fun b e => by
  cases q : H b with
  | none => exact absurd q e
  | some o => rw [g b o q]; exact fun z => nomatch z
theorem Gr.trans {H H1 H2 : Hp} (a : Gr H H1) (b : Gr H1 H2) : Gr H H2 := fun c o e => b c o (a c o e)
theorem Gr.step {H H' : Hp} (g : Gr H H') (as : List (Option Addr)) : Step as H as H' := ⟨fun b o e _ => g b o e, g.dom, fun _ e => .inl e⟩
theorem Gr.kp {H H' : Hp} (g : Gr H H') (A : Ax) : Kp H A H' A := ⟨rfl, fun a xs e _ => g a _ e, fun a xs e _ => g a _ e, fun a u e _ => by
  rcases e with e | ⟨o, e⟩
  · exact .inl (g a _ e)
  · exact .inr ⟨o, g a _ e⟩, fun _ _ n => n⟩
theorem OwnAt.kp {H H' : Hp} {A A' : Ax} {a : Addr} (k : Kp H A H' A') (e : ∀ o, H a = some o → H' a = some o) : ∀ {d : D}, OwnAt H A a d → OwnAt H' A' a d
  | .lst _, ⟨_, h, q⟩ => ⟨_, e _ h, q.kp k⟩
  | .dK _, ⟨_, h, q⟩ => ⟨_, e _ h, q.kp k⟩
  | .dT _, ⟨_, h, q⟩ => ⟨_, e _ h, q.kp k⟩
theorem SlOk.kp {H H' : Hp} {A A' : Ax} {x : Option V} {s : Sl} {o : Option Addr} (k : Kp H A H' A') (e : ∀ a u, o = some a → H a = some u → H' a = some u) (h : SlOk H A x s o) : SlOk H' A' x s o := by
  cases h with
  | un => exact .un
  | val q => exact .val (q.kp k)
  | own q => exact .own (q.kp k fun u z => e _ u rfl z)
theorem SlsOk.kp {H H' : Hp} {A A' : Ax} (k : Kp H A H' A') : ∀ {σ : Sg} {env : En} {as : List (Option Addr)}, (∀ a u, some a ∈ as → H a = some u → H' a = some u) → SlsOk H A σ env as → SlsOk H' A' σ env as
  | _, _, _, _, .nil => .nil
  | _, _, _, e, .cons h t => .cons (h.kp k fun a u z => e a u (by rw [z]; exact List.mem_cons_self)) (SlsOk.kp k (fun a u z => e a u (List.mem_cons_of_mem _ z)) t)
theorem EnvOk.gr {F : Fm} {H H' : Hp} {σ : Sg} {env : En} {as : List (Option Addr)} (E : EnvOk F H σ env as) (g : Gr H H') : EnvOk F H' σ env as :=
  ⟨E.sl.kp (g.kp _) (fun a u _ => g a u), E.nd, E.ap, fun a h => let ⟨o, e, m⟩ := E.bd a h; ⟨o, g a o e, m⟩, E.pin, E.io, E.fr, fun a h => g.dom a (E.dom a h)⟩
theorem SlsOk.len {H : Hp} {A : Ax} : ∀ {σ : Sg} {env : En} {as : List (Option Addr)}, SlsOk H A σ env as → σ.length = env.length ∧ as.length = env.length
  | _, _, _, .nil => ⟨rfl, rfl⟩
  | _, _, _, .cons _ t => by
    obtain ⟨a, b⟩ := SlsOk.len t
    exact ⟨by rw [List.length_cons, List.length_cons, a], by rw [List.length_cons, List.length_cons, b]⟩
theorem SlsOk.at {H : Hp} {A : Ax} : ∀ {σ : Sg} {env : En} {as : List (Option Addr)} {i : Nat} {s : Sl}, SlsOk H A σ env as → env[i]? = some s → ∃ x o, σ[i]? = some x ∧ as[i]? = some o ∧ SlOk H A x s o
  | _, _, _, _, _, .nil, e => by simp at e
  | _, _, _, 0, _, .cons h _, e => by simp at e; subst e; exact ⟨_, _, rfl, rfl, h⟩
  | _, _, _, i + 1, _, .cons _ t, e => by
    obtain ⟨x, o, h1, h2, h3⟩ := SlsOk.at (i := i) t (by simpa using e)
    exact ⟨x, o, by simpa using h1, by simpa using h2, h3⟩
theorem SlsOk.set {H : Hp} {A : Ax} {x : Option V} {s : Sl} {o : Option Addr} (h : SlOk H A x s o) : ∀ {σ : Sg} {env : En} {as : List (Option Addr)} (i : Nat), SlsOk H A σ env as → SlsOk H A (σ.set i x) (env.set i s) (as.set i o)
  | _, _, _, _, .nil => .nil
  | _, _, _, 0, .cons _ t => .cons h t
  | _, _, _, i + 1, .cons q t => .cons q (SlsOk.set h i t)
end DL
/-! The data layer: expressions. -/
namespace DL
open PySem PySem.Spec PyProof.Rows L2

theorem PE.weak {X : Cx} {e : Expr} {t t' : TE} (h : PE X e t) (w : ∀ σ H Q, t' σ H Q → t σ H Q) : PE X e t' := ⟨fun pins s σ H Q I q => h.run pins s σ H Q I (w σ H Q q)⟩
theorem PT.weak {X : Cx} {e : Expr} {t t' : TT} (h : PT X e t) (w : ∀ σ H Q, t' σ H Q → t σ H Q) : PT X e t' := ⟨fun pins s σ H Q I q => h.run pins s σ H Q I (w σ H Q q)⟩
theorem PA.weak {X : Cx} {e : List Expr} {t t' : TA} (h : PA X e t) (w : ∀ σ H Q, t' σ H Q → t σ H Q) : PA X e t' := ⟨fun pos pins s σ H Q I q => h.run pos pins s σ H Q I (w σ H Q q)⟩

/-! ### readings -/
/-- A and one address more -/
def Ax.add (A : Ax) (a : Addr) : Ax := ⟨A.K, fun b => A b ∨ b = a⟩
/-- a list or dict that nothing leads to -/
structure NewAt (H : Hp) (A : Ax) (a : Addr) (d : D) : Prop where
  n : ¬ A a
  o : OwnAt H (A.add a) a d
theorem Kp.less {H : Hp} {A A' : Ax} (k : A'.K = A.K) (h : ∀ a, A' a → A a) : Kp H A H A' := ⟨k, fun _ _ e _ => e, fun _ _ e _ => e, fun _ _ e _ => e, fun a _ n z => n (h a z)⟩
theorem Kp.add {H : Hp} {A : Ax} (a : Addr) : Kp H (A.add a) H A := Kp.less rfl fun _ z => .inl z
theorem OwnAt.isD {H : Hp} {A : Ax} {a : Addr} (n : ¬ A a) : ∀ {d : D}, OwnAt H A a d → IsD H A (.ref a) d
  | .lst _, ⟨_, e, s⟩ => .lst e n s
  | .dK _, ⟨_, e, s⟩ => .dK (.inl e) n s
  | .dT _, ⟨_, e, s⟩ => .dT (.inl e) n s
theorem NewAt.isD {H : Hp} {A : Ax} {a : Addr} {d : D} (h : NewAt H A a d) : IsD H A (.ref a) d := (h.o.kp (Kp.add a) fun _ e => e).isD h.n
abbrev FE := En → Option (D × En)
abbrev FT := En → Option (Bool × En)
abbrev FA := En → Option (List D × En)
def Fm.add (F : Fm) (a : Addr) : Fm := { F with B := F.B.add a }
theorem EnvOk.less {F : Fm} {H : Hp} {σ : Sg} {env : En} {as : List (Option Addr)} {a : Addr} (E : EnvOk (F.add a) H σ env as) : EnvOk F H σ env as :=
  ⟨E.sl.kp (Kp.less (A := Av as (F.add a).B) (A' := Av as F.B) rfl fun x z => Or.elim z (fun z => Or.inl z) fun z => Or.inr (Or.inl z)) fun _ _ _ e => e, E.nd, fun x h z => E.ap x h (.inl z), fun x h => E.bd x (.inl h), E.pin, E.io, E.fr, E.dom⟩
/-- a new object beside all that the slots lead to -/
theorem EnvOk.more {F : Fm} {H H' : Hp} {σ : Sg} {env : En} {as : List (Option Addr)} {a : Addr} (E : EnvOk F H σ env as) (g : Gr H H') (n : H a = none) (m : ∃ o, H' a = some o ∧ isMu o = true) (tr : ∀ b, some b ∈ as → H b ≠ none) : EnvOk (F.add a) H' σ env as :=
  have G := E.gr g
  have kp : Kp H (Av as F.B) H' (Av as (F.add a).B) := ⟨rfl, fun x xs e _ => g x _ e, fun x xs e _ => g x _ e, fun x u e _ => by
    rcases e with e | ⟨o, e⟩
    · exact .inl (g x _ e)
    · exact .inr ⟨o, g x _ e⟩, fun x e nx z => by
    rcases (show some x ∈ as ∨ (F.B x ∨ x = a) from z) with z | z | z
    · exact nx (Or.inl z)
    · exact nx (Or.inr z)
    · exact e (z ▸ n)⟩
  ⟨E.sl.kp kp fun x u _ e => g x u e, G.nd, fun x h z => z.elim (E.ap x h) fun z => tr x h (z ▸ n), fun x h => h.elim (G.bd x) fun z => z ▸ m, G.pin, G.io, G.fr, G.dom⟩
def tD (K : PySem.W.Frag) (f : FE) : TE := fun σ H Q => ∃ F env as d env', F.B.K = K ∧ EnvOk F H σ env as ∧ f env = some (d, env') ∧
  ∀ v H' as', EnvOk F H' σ env' as' → Step as H as' H' → IsD H' (Av as' F.B) v d → Q v H'
/-- a new object -/
def tF (K : PySem.W.Frag) (f : FE) : TE := fun σ H Q => ∃ F env as d env', F.B.K = K ∧ EnvOk F H σ env as ∧ f env = some (d, env') ∧
  ∀ a H' as', EnvOk (F.add a) H' σ env' as' → Step as H as' H' → H a = none → NewAt H' (Av as' F.B) a d → Q (.ref a) H'
theorem PE.ofF {X : Cx} {e : Expr} {f : FE} (h : PE X e (tF X.K f)) : PE X e (tD X.K f) := PE.weak h fun σ H Q ⟨F, env, as, d, env', hK, E, ef, q⟩ => ⟨F, env, as, d, env', hK, E, ef, fun a H' as' E' S _ i => q _ H' as' E'.less S i.isD⟩
def tT (K : PySem.W.Frag) (g : FT) : TT := fun σ H Q => ∃ F env as b env', F.B.K = K ∧ EnvOk F H σ env as ∧ g env = some (b, env') ∧ ∀ H' as', EnvOk F H' σ env' as' → Step as H as' H' → Q b H'
/-- items of a display -/
def tA (K : PySem.W.Frag) (f : FA) : TA := fun σ H Q => ∃ F env as ds env', F.B.K = K ∧ EnvOk F H σ env as ∧ f env = some (ds, env') ∧
  ∀ vs H' as', EnvOk F H' σ env' as' → Step as H as' H' → IsDs H' (Av as' F.B) vs ds → Q vs H'

/-- data, or the content of a list or dict that is being written -/
inductive IsC (H : Hp) (A : Ax) : V → D → Prop
  | d {v : V} {d : D} : IsD H A v d → IsC H A v d
  | o {a : Addr} {d : D} : OwnAt H A a d → IsC H A (.ref a) d
/-- an operand: a slot, read when all operands are there; or data -/
abbrev LV := Sum Nat D
def LvOk (σ : Sg) (H : Hp) (A : Ax) (v : V) : LV → Prop
  | .inl i => σ[i]? = some (some v)
  | .inr d => IsD H A v d
def res (env : En) : LV → Option D
  | .inl i => match env[i]? with
    | some (.val d) => some d
    | some (.own _ d) => some d
    | _ => none
  | .inr d => some d
abbrev FL := En → Option (LV × En)
abbrev FLs := En → Option (List LV × En)
def tL (K : PySem.W.Frag) (f : FL) : TE := fun σ H Q => ∃ F env as l env', F.B.K = K ∧ EnvOk F H σ env as ∧ f env = some (l, env') ∧
  ∀ v H' as', EnvOk F H' σ env' as' → Step as H as' H' → LvOk σ H' (Av as' F.B) v l → Q v H'
inductive LvsOk (σ : Sg) (H : Hp) (A : Ax) : List V → List LV → Prop
  | nil : LvsOk σ H A [] []
  | cons {v : V} {l : LV} {vs : List V} {ls : List LV} : LvOk σ H A v l → LvsOk σ H A vs ls → LvsOk σ H A (v :: vs) (l :: ls)
def tLs (K : PySem.W.Frag) (f : FLs) : TA := fun σ H Q => ∃ F env as ls env', F.B.K = K ∧ EnvOk F H σ env as ∧ f env = some (ls, env') ∧
  ∀ vs H' as', EnvOk F H' σ env' as' → Step as H as' H' → LvsOk σ H' (Av as' F.B) vs ls → Q vs H'
inductive IsCs (H : Hp) (A : Ax) : List V → List D → Prop
  | nil : IsCs H A [] []
  | cons {v : V} {d : D} {vs : List V} {ds : List D} : IsC H A v d → IsCs H A vs ds → IsCs H A (v :: vs) (d :: ds)
def ress (env : En) : List LV → Option (List D)
  | [] => some []
  | l :: ls => match res env l, ress env ls with
    | some d, some ds => some (d :: ds)
    | _, _ => none

theorem LvOk.st {σ : Sg} {H H' : Hp} {B : Ax} {as as' : List (Option Addr)} {v : V} {l : LV} (h : LvOk σ H (Av as B) v l) (s : Step as H as' H') : LvOk σ H' (Av as' B) v l := by
  cases l with
  | inl i => exact h
  | inr d => exact IsD.st s h
theorem LvsOk.st {σ : Sg} {H H' : Hp} {B : Ax} {as as' : List (Option Addr)} (s : Step as H as' H') : ∀ {vs : List V} {ls : List LV}, LvsOk σ H (Av as B) vs ls → LvsOk σ H' (Av as' B) vs ls
  | _, _, .nil => .nil
  | _, _, .cons h t => .cons (h.st s) (LvsOk.st s t)
theorem LvOk.c {F : Fm} {σ : Sg} {H : Hp} {env : En} {as : List (Option Addr)} (E : EnvOk F H σ env as) {v : V} {l : LV} {d : D} (h : LvOk σ H (Av as F.B) v l) (r : res env l = some d) : IsC H (Av as F.B) v d := by
  cases l with
  | inr e =>
    cases r
    exact .d h
  | inl i =>
    cases e : env[i]? with
    | none => simp only [res, e] at r; cases r
    | some s =>
      simp only [res, e] at r
      obtain ⟨x, o, h1, h2, h3⟩ := E.sl.at e
      have ex : x = some v := by
        have := h1.symm.trans h
        injection this
      subst ex
      cases h3 with
      | un => cases r
      | val q => cases r; exact .d q
      | own q => cases r; exact .o q
theorem LvsOk.c {F : Fm} {σ : Sg} {H : Hp} {env : En} {as : List (Option Addr)} (E : EnvOk F H σ env as) : ∀ {vs : List V} {ls : List LV} {ds : List D}, LvsOk σ H (Av as F.B) vs ls → ress env ls = some ds → IsCs H (Av as F.B) vs ds
  | _, _, _, .nil, r => by cases r; exact .nil
  | _, _, ds, .cons (l := l) (ls := ls) h t, r => by
    unfold ress at r
    cases e1 : res env l with
    | none => rw [e1] at r; cases r
    | some d =>
      cases e2 : ress env ls with
      | none => rw [e1, e2] at r; cases r
      | some es =>
        rw [e1, e2] at r
        cases r
        exact .cons (h.c E e1) (LvsOk.c E t e2)
theorem EnvOk.mu {F : Fm} {H : Hp} {σ : Sg} {env : En} {as : List (Option Addr)} (E : EnvOk F H σ env as) : ∀ a, Av as F.B a → ∃ o, H a = some o ∧ isMu o = true := by
  intro a h
  rcases h with h | h
  · have : ∀ {σ : Sg} {env : En} {as : List (Option Addr)} {A : Ax}, SlsOk H A σ env as → some a ∈ as → ∃ o, H a = some o ∧ isMu o = true := by
      intro σ env as A s
      induction s with
      | nil => intro z; cases z
      | cons h t ih =>
        intro z
        rcases List.mem_cons.mp z with z | z
        · subst z
          cases h with
          | own q => exact q.mu
        · exact ih z
    exact this E.sl h
  · exact E.bd a h
theorem EnvOk.av {F : Fm} {H : Hp} {σ : Sg} {env : En} {as : List (Option Addr)} (E : EnvOk F H σ env as) : ∀ a, Av as F.B a → H a ≠ none := fun a h => by
  obtain ⟨o, e, _⟩ := E.mu a h
  exact some_ne e

theorem EnvOk.trk {F : Fm} {H : Hp} {σ : Sg} {env : En} {as : List (Option Addr)} (E : EnvOk F H σ env as) : ∀ b, some b ∈ as → H b ≠ none := fun b h => E.av b (.inl h)
/-! ### names, constants -/
def fVar (i : Nat) : FE := fun env => match env[i]? with
  | some (.val d) => some (d, env)
  | _ => none
def fC (d : D) : FE := fun env => some (d, env)
def fLv (i : Nat) : FL := fun env => match env[i]? with
  | some (.val _) => some (.inl i, env)
  | some (.own _ _) => some (.inl i, env)
  | _ => none
def fLd (f : FE) : FL := fun env => (f env).map fun p => (.inr p.1, p.2)
section
variable {X : Cx} {pos : Pos}
theorem de_var (i : Nat) {x : Str} (hN : X.N[i]? = some x := by rfl) (hv : Vis X.env.scope x := by first | exact Or.inl rfl | exact Or.inr (Or.inl rfl) | exact Or.inr (Or.inr rfl)) (hd : (x == ("__debug__" : Str)) = false := by decide)
    (hcd : (x == ("__classdict__" : Str)) = false := by decide) : PE X (.Name x pos) (tD X.K (fVar i)) := by
  refine PE.weak (pe_var (i := i) hN hv hd hcd) ?_
  rintro σ H Q ⟨F, env, as, d, env', hK, E, ef, q⟩
  unfold fVar at ef
  cases e : env[i]? with
  | none => rw [e] at ef; cases ef
  | some s =>
    rw [e] at ef
    obtain ⟨x, o, h1, h2, h3⟩ := E.sl.at e
    cases h3 with
    | un => cases ef
    | own q => cases ef
    | val r =>
      cases ef
      exact ⟨_, h1, q _ H as E (Step.refl _ _) r⟩
theorem dl_var (i : Nat) {x : Str} (hN : X.N[i]? = some x := by rfl) (hv : Vis X.env.scope x := by first | exact Or.inl rfl | exact Or.inr (Or.inl rfl) | exact Or.inr (Or.inr rfl)) (hd : (x == ("__debug__" : Str)) = false := by decide)
    (hcd : (x == ("__classdict__" : Str)) = false := by decide) : PE X (.Name x pos) (tL X.K (fLv i)) := by
  refine PE.weak (pe_var (i := i) hN hv hd hcd) ?_
  rintro σ H Q ⟨F, env, as, d, env', hK, E, ef, q⟩
  cases e : env[i]? with
  | none => simp only [fLv, e] at ef; cases ef
  | some s =>
    simp only [fLv, e] at ef
    obtain ⟨x, o, h1, h2, h3⟩ := E.sl.at e
    cases h3 with
    | un => cases ef
    | own r => cases ef; exact ⟨_, h1, q _ H as E (Step.refl _ _) h1⟩
    | val r => cases ef; exact ⟨_, h1, q _ H as E (Step.refl _ _) h1⟩
theorem dl_of {e : Expr} {f : FE} (h : PE X e (tD X.K f)) : PE X e (tL X.K (fLd f)) := by
  refine PE.weak h ?_
  rintro σ H Q ⟨F, env, as, l, env', hK, E, ef, q⟩
  unfold fLd at ef
  cases r : f env with
  | none => rw [r] at ef; cases ef
  | some p =>
    rw [r] at ef
    cases ef
    exact ⟨F, env, as, p.1, p.2, hK, E, r, fun v H' as' E' S i => q v H' as' E' S i⟩
theorem de_c {e : Expr} {v : V} {d : D} (h : PE X e (tC v)) (i : ∀ H A, IsD H A v d) : PE X e (tD X.K (fC d)) := by
  refine PE.weak h ?_
  rintro σ H Q ⟨F, env, as, l, env', hK, E, ef, q⟩
  cases ef
  exact q v H as E (Step.refl _ _) (i _ _)
theorem de_int {i : Int} {j} : PE X (.Constant (.int i) j pos) (tD X.K (fC (.int i))) := de_c pe_int fun _ _ => .int i
theorem de_bl {b : Bool} {j} : PE X (.Constant (.bool b) j pos) (tD X.K (fC (.bl b))) := de_c pe_bl fun _ _ => .bl b
theorem de_non {j} : PE X (.Constant .none j pos) (tD X.K (fC .non)) := de_c pe_non fun _ _ => .non
theorem de_str {x : Str} {j} : PE X (.Constant (.str x) j pos) (tD X.K (fC (.str x))) := de_c pe_str fun _ _ => .str x
/-- a module's constant -/
theorem de_glob {x : Str} {v : V} {u : Value} {d : D} (hg : Gl X x) (hm : X.mg x = some u) (r : RelV v u) (i : ∀ H A, IsD H A v d) (hd : (x == ("__debug__" : Str)) = false := by decide) : PE X (.Name x pos) (tD X.K (fC d)) := de_c (pe_glob hg hm r hd) i
end

/-! ### lists of operands -/
def flNil : FLs := fun env => some ([], env)
def flCons (f : FL) (r : FLs) : FLs := fun env => match f env with
  | none => none
  | some (l, e1) => match r e1 with
    | none => none
    | some (ls, e2) => some (l :: ls, e2)
section
variable {X : Cx} {e : Expr} {es : List Expr}
theorem dls_nil : PA X [] (tLs X.K flNil) := by
  refine PA.weak pa_nil ?_
  rintro σ H Q ⟨F, env, as, l, env', hK, E, ef, q⟩
  cases ef
  exact q [] H as E (Step.refl _ _) .nil
theorem dls_cons {f : FL} {r : FLs} (h : PE X e (tL X.K f)) (t : PA X es (tLs X.K r)) (hs : starEach (e :: es) X.env = (false, eval e X.env) :: starEach es X.env := by rfl) : PA X (e :: es) (tLs X.K (flCons f r)) := by
  refine PA.weak (pa_cons h t hs) ?_
  rintro σ H Q ⟨F, env, as, l, env', hK, E, ef, q⟩
  unfold flCons at ef
  cases r1 : f env with
  | none => rw [r1] at ef; cases ef
  | some p =>
    obtain ⟨l1, e1⟩ := p
    simp only [r1] at ef
    cases r2 : r e1 with
    | none => rw [r2] at ef; cases ef
    | some p2 =>
      obtain ⟨ls, e2⟩ := p2
      simp only [r2] at ef
      cases ef
      exact ⟨F, env, as, l1, e1, hK, E, r1, fun v H1 as1 E1 S1 i1 => ⟨F, e1, as1, ls, _, hK, E1, r2, fun vs H2 as2 E2 S2 i2 => q _ _ as2 E2 (S1.trans S2) (.cons (i1.st S2) i2)⟩⟩
end

/-! ### what an operation by values makes of data -/
/-- two operands -/
def G2 (K : PySem.W.Frag) (r : R2) (g : D → D → Option D) : Prop := ∀ (H : Hp) (A : Ax) (x y : V) (a b d : D) (Q : VK), A.K = K → (∀ p, A p → H p ≠ none) → IsC H A x a → IsC H A y b → g a b = some d → (∀ v H', Gr H H' → IsD H' A v d → Q v H') → r x y H Q
def fOp2 (g : D → D → Option D) (fa fb : FL) : FE := fun env => match fa env with
  | none => none
  | some (la, e1) => match fb e1 with
    | none => none
    | some (lb, e2) => match res e2 la, res e2 lb with
      | some a, some b => (g a b).map fun d => (d, e2)
      | _, _ => none
theorem tOp_of {K : PySem.W.Frag} {r : R2} {g : D → D → Option D} {fa fb : FL} (hg : G2 K r g) {σ : Sg} {H : Hp} {Q : VK} (h : tD K (fOp2 g fa fb) σ H Q) : tOp r (tL K fa) (tL K fb) σ H Q := by
  obtain ⟨F, env, as, d, env', hK, E, ef, q⟩ := h
  unfold fOp2 at ef
  cases r1 : fa env with
  | none => rw [r1] at ef; cases ef
  | some p =>
    obtain ⟨la, e1⟩ := p
    simp only [r1] at ef
    cases r2 : fb e1 with
    | none => rw [r2] at ef; cases ef
    | some p2 =>
      obtain ⟨lb, e2⟩ := p2
      simp only [r2] at ef
      cases ra : res e2 la with
      | none => simp only [ra] at ef; cases ef
      | some a =>
        cases rb : res e2 lb with
        | none => simp only [ra, rb] at ef; cases ef
        | some b =>
          simp only [ra, rb] at ef
          cases rg : g a b with
          | none => rw [rg] at ef; cases ef
          | some d' =>
            rw [rg] at ef
            cases ef
            refine ⟨F, env, as, la, e1, hK, E, r1, fun v H1 as1 E1 S1 i1 => ⟨F, e1, as1, lb, _, hK, E1, r2, fun u H2 as2 E2 S2 i2 => ?_⟩⟩
            exact hg H2 (Av as2 F.B) v u a b d _ hK E2.av ((i1.st S2).c E2 ra) (i2.c E2 rb) rg fun z H3 gr iz => q z H3 as2 (E2.gr gr) ((S1.trans S2).trans (gr.step _)) iz
section
variable {X : Cx} {a b : Expr} {fa fb : FL} {pos : Pos}
theorem de_bin {op : Operator} {r : R2} {g : D → D → Option D} (ho : OpR X (binaryOp op) r) (hg : G2 X.K r g) (ha : PE X a (tL X.K fa)) (hb : PE X b (tL X.K fb)) : PE X (.BinOp a op b pos) (tD X.K (fOp2 g fa fb)) :=
  PE.weak (pe_op ho ha hb) fun _ _ _ => tOp_of hg
theorem de_cmp {op : CmpOp} {r : R2} {g : D → D → Option D} (ho : OpR X (compareOp op) r) (hg : G2 X.K r g) (ha : PE X a (tL X.K fa)) (hb : PE X b (tL X.K fb)) (hm : behindInMarks op b = false) : PE X (.Compare a [op] [b] pos) (tD X.K (fOp2 g fa fb)) :=
  PE.weak (pe_cmpR ho ha hb hm) fun _ _ _ => tOp_of hg
theorem de_ix {r : R2} {g : D → D → Option D} (ho : IxR X r) (hg : G2 X.K r g) (ha : PE X a (tL X.K fa)) (hb : PE X b (tL X.K fb)) (hs : PlainIx b) : PE X (.Subscript a b pos) (tD X.K (fOp2 g fa fb)) :=
  PE.weak (pe_ix ho ha hb hs) fun _ _ _ => tOp_of hg
/-- a data expression that gives a bool, as a test -/
def fTest (f : FE) : FT := fun env => match f env with
  | some (.bl b, e) => some (b, e)
  | _ => none
theorem tT_of {K : PySem.W.Frag} {f : FE} {σ : Sg} {H : Hp} {Q : Bool → Hp → Prop} (h : tT K (fTest f) σ H Q) : tD K f σ H fun x H' => ∃ k, x = .bl k ∧ Q k H' := by
  obtain ⟨F, env, as, d, env', hK, E, ef, q⟩ := h
  unfold fTest at ef
  cases r : f env with
  | none => rw [r] at ef; cases ef
  | some p =>
    obtain ⟨d', e'⟩ := p
    rw [r] at ef
    cases d' with
    | bl b =>
      cases ef
      refine ⟨F, env, as, .bl _, _, hK, E, r, fun v H' as' E' S i => ?_⟩
      cases i
      exact ⟨_, rfl, q H' as' E' S⟩
    | _ => cases ef
theorem dt_cmp {op : CmpOp} {r : R2} {g : D → D → Option D} (ho : OpR X (compareOp op) r) (hg : G2 X.K r g) (ha : PE X a (tL X.K fa)) (hb : PE X b (tL X.K fb)) (hm : behindInMarks op b = false) : PT X (.Compare a [op] [b] pos) (tT X.K (fTest (fOp2 g fa fb))) :=
  PT.weak (pt_cmpR ho ha hb hm) fun σ H Q h => tOp_of hg (tT_of h)
theorem dt_val {e : Expr} {f : FE} (h : PE X e (tD X.K f)) (he : ∀ whole, isTrue e X.env whole = (do let v ← whole; standAt e.pos; holding [v] (truthy v)) := by intro _; rfl) : PT X e (tT X.K (fTest f)) :=
  PT.weak (pt_val h he) fun σ H Q h => tT_of h
def ftNot (g : FT) : FT := fun env => (g env).map fun p => (!p.1, p.2)
theorem dt_not {g : FT} (h : PT X a (tT X.K g)) : PT X (.UnaryOp .Not a pos) (tT X.K (ftNot g)) := by
  refine PT.weak (pt_not h) ?_
  rintro σ H Q ⟨F, env, as, d, env', hK, E, ef, q⟩
  unfold ftNot at ef
  cases r : g env with
  | none => rw [r] at ef; cases ef
  | some p =>
    rw [r] at ef
    cases ef
    exact ⟨F, env, as, p.1, p.2, hK, E, r, q⟩
def ftAnd (g h : FT) : FT := fun env => match g env with
  | none => none
  | some (true, e) => h e
  | some (false, e) => some (false, e)
def ftOr (g h : FT) : FT := fun env => match g env with
  | none => none
  | some (false, e) => h e
  | some (true, e) => some (true, e)
variable {rest : List Expr} {g h : FT}
theorem dw_and1 (ha : PT X a (tT X.K g)) : PW X (.BoolOp .And [a] pos) (tT X.K g) := pw_and1 ha
theorem dw_or1 (ha : PT X a (tT X.K g)) : PW X (.BoolOp .Or [a] pos) (tT X.K g) := pw_or1 ha
theorem PW.weak {e : Expr} {t t' : TT} (h : PW X e t) (w : ∀ σ H Q, t' σ H Q → t σ H Q) : PW X e t' := ⟨fun wh pins s σ H Q I q => h.run wh pins s σ H Q I (w σ H Q q)⟩
theorem dw_and (ha : PT X a (tT X.K g)) (hb : PW X (.BoolOp .And (b :: rest) pos) (tT X.K h)) : PW X (.BoolOp .And (a :: b :: rest) pos) (tT X.K (ftAnd g h)) := by
  refine PW.weak (pw_and ha hb) ?_
  rintro σ H Q ⟨F, env, as, d, env', hK, E, ef, q⟩
  unfold ftAnd at ef
  cases r : g env with
  | none => rw [r] at ef; cases ef
  | some p =>
    obtain ⟨k, e1⟩ := p
    rw [r] at ef
    refine ⟨F, env, as, k, e1, hK, E, r, fun H1 as1 E1 S1 => ?_⟩
    cases k with
    | true =>
      rw [if_pos rfl]
      exact ⟨F, e1, as1, d, env', hK, E1, ef, fun H2 as2 E2 S2 => q H2 as2 E2 (S1.trans S2)⟩
    | false =>
      rw [if_neg Bool.false_ne_true]
      cases ef
      exact q H1 as1 E1 S1
theorem dw_or (ha : PT X a (tT X.K g)) (hb : PW X (.BoolOp .Or (b :: rest) pos) (tT X.K h)) : PW X (.BoolOp .Or (a :: b :: rest) pos) (tT X.K (ftOr g h)) := by
  refine PW.weak (pw_or ha hb) ?_
  rintro σ H Q ⟨F, env, as, d, env', hK, E, ef, q⟩
  unfold ftOr at ef
  cases r : g env with
  | none => rw [r] at ef; cases ef
  | some p =>
    obtain ⟨k, e1⟩ := p
    rw [r] at ef
    refine ⟨F, env, as, k, e1, hK, E, r, fun H1 as1 E1 S1 => ?_⟩
    cases k with
    | false =>
      rw [if_neg Bool.false_ne_true]
      exact ⟨F, e1, as1, d, env', hK, E1, ef, fun H2 as2 E2 S2 => q H2 as2 E2 (S1.trans S2)⟩
    | true =>
      rw [if_pos rfl]
      cases ef
      exact q H1 as1 E1 S1
/-- and, or of bools as values -/
def feAnd (f g : FE) : FE := fun env => match f env with
  | some (.bl true, e) => g e
  | some (.bl false, e) => some (.bl false, e)
  | _ => none
def feOr (f g : FE) : FE := fun env => match f env with
  | some (.bl false, e) => g e
  | some (.bl true, e) => some (.bl true, e)
  | _ => none
def feNot (f : FE) : FE := fun env => match f env with
  | some (.bl b, e) => some (.bl (!b), e)
  | _ => none
variable {f1 f2 : FE}
theorem de_one {op : PySem.BoolOp} (ha : PE X a (tD X.K f1)) : PE X (.BoolOp op [a] pos) (tD X.K f1) := pe_one ha
theorem de_and (ha : PE X a (tD X.K f1)) (hb : PE X (.BoolOp .And (b :: rest) pos) (tD X.K f2)) : PE X (.BoolOp .And (a :: b :: rest) pos) (tD X.K (feAnd f1 f2)) := by
  refine PE.weak (pe_and ha hb) ?_
  rintro σ H Q ⟨F, env, as, d, env', hK, E, ef, q⟩
  unfold feAnd at ef
  cases r : f1 env with
  | none => rw [r] at ef; cases ef
  | some p =>
    obtain ⟨k, e1⟩ := p
    rw [r] at ef
    cases k with
    | bl k =>
      refine ⟨F, env, as, _, e1, hK, E, r, fun v H1 as1 E1 S1 i1 => ?_⟩
      cases i1
      cases k with
      | true => exact ⟨true, rfl, F, e1, as1, d, env', hK, E1, ef, fun v H2 as2 E2 S2 i2 => q v H2 as2 E2 (S1.trans S2) i2⟩
      | false =>
        cases ef
        exact ⟨false, rfl, q _ H1 as1 E1 S1 (.bl _)⟩
    | _ => cases ef
theorem de_or (ha : PE X a (tD X.K f1)) (hb : PE X (.BoolOp .Or (b :: rest) pos) (tD X.K f2)) : PE X (.BoolOp .Or (a :: b :: rest) pos) (tD X.K (feOr f1 f2)) := by
  refine PE.weak (pe_or ha hb) ?_
  rintro σ H Q ⟨F, env, as, d, env', hK, E, ef, q⟩
  unfold feOr at ef
  cases r : f1 env with
  | none => rw [r] at ef; cases ef
  | some p =>
    obtain ⟨k, e1⟩ := p
    rw [r] at ef
    cases k with
    | bl k =>
      refine ⟨F, env, as, _, e1, hK, E, r, fun v H1 as1 E1 S1 i1 => ?_⟩
      cases i1
      cases k with
      | false => exact ⟨false, rfl, F, e1, as1, d, env', hK, E1, ef, fun v H2 as2 E2 S2 i2 => q v H2 as2 E2 (S1.trans S2) i2⟩
      | true =>
        cases ef
        exact ⟨true, rfl, q _ H1 as1 E1 S1 (.bl _)⟩
    | _ => cases ef
theorem de_not (ha : PE X a (tD X.K f1)) : PE X (.UnaryOp .Not a pos) (tD X.K (feNot f1)) := by
  refine PE.weak (pe_not ha) ?_
  rintro σ H Q ⟨F, env, as, d, env', hK, E, ef, q⟩
  unfold feNot at ef
  cases r : f1 env with
  | none => rw [r] at ef; cases ef
  | some p =>
    obtain ⟨k, e1⟩ := p
    rw [r] at ef
    cases k with
    | bl k =>
      cases ef
      refine ⟨F, env, as, _, _, hK, E, r, fun v H1 as1 E1 S1 i1 => ?_⟩
      cases i1
      exact ⟨k, rfl, q _ H1 as1 E1 S1 (.bl _)⟩
    | _ => cases ef
def feIf (t : FT) (f g : FE) : FE := fun env => match t env with
  | none => none
  | some (true, e) => f e
  | some (false, e) => g e
theorem de_if {c : Expr} {t : FT} (hc : PT X c (tT X.K t)) (ha : PE X a (tD X.K f1)) (hb : PE X b (tD X.K f2)) : PE X (.IfExp c a b pos) (tD X.K (feIf t f1 f2)) := by
  refine PE.weak (pe_ifExp hc ha hb) ?_
  rintro σ H Q ⟨F, env, as, d, env', hK, E, ef, q⟩
  unfold feIf at ef
  cases r : t env with
  | none => rw [r] at ef; cases ef
  | some p =>
    obtain ⟨k, e1⟩ := p
    rw [r] at ef
    refine ⟨F, env, as, k, e1, hK, E, r, fun H1 as1 E1 S1 => ?_⟩
    cases k with
    | true => rw [if_pos rfl]; exact ⟨F, e1, as1, d, env', hK, E1, ef, fun v H2 as2 E2 S2 i2 => q v H2 as2 E2 (S1.trans S2) i2⟩
    | false => rw [if_neg Bool.false_ne_true]; exact ⟨F, e1, as1, d, env', hK, E1, ef, fun v H2 as2 E2 S2 i2 => q v H2 as2 E2 (S1.trans S2) i2⟩
/-- a < b < c of ints (b asked once) -/
def fChain (g g' : D → D → Option D) (fa fb fc : FE) : FE := fun env => match fa env with
  | none => none
  | some (a, e1) => match fb e1 with
    | none => none
    | some (b, e2) => match g a b with
      | some (.bl true) => match fc e2 with
        | none => none
        | some (c, e3) => (g' b c).map fun d => (d, e3)
      | some (.bl false) => some (.bl false, e2)
      | _ => none
end

/-! ### calls of built-ins -/
def GL (K : PySem.W.Frag) (r : List V → Hp → VK → Prop) (g : List D → Option D) : Prop := ∀ (H : Hp) (A : Ax) (xs : List V) (ds : List D) (d : D) (Q : VK), A.K = K → (∀ p, A p → H p ≠ none) → IsCs H A xs ds → g ds = some d → (∀ v H', Gr H H' → IsD H' A v d → Q v H') → r xs H Q
/-- .. that make a new object -/
def GLF (K : PySem.W.Frag) (r : List V → Hp → VK → Prop) (g : List D → Option D) : Prop := ∀ (H : Hp) (A : Ax) (xs : List V) (ds : List D) (d : D) (Q : VK), A.K = K → (∀ p, A p → H p ≠ none) → IsCs H A xs ds → g ds = some d → (∀ a H', H a = none → Gr H H' → NewAt H' A a d → Q (.ref a) H') → r xs H Q
def fB (g : List D → Option D) (fs : FLs) : FE := fun env => match fs env with
  | none => none
  | some (ls, e) => match ress e ls with
    | none => none
    | some ds => (g ds).map fun d => (d, e)
theorem tCB_of {K : PySem.W.Frag} {r : List V → Hp → VK → Prop} {g : List D → Option D} {fs : FLs} (hg : GL K r g) {σ : Sg} {H : Hp} {Q : VK} (h : tD K (fB g fs) σ H Q) : tCB r (tLs K fs) σ H Q := by
  obtain ⟨F, env, as, d, env', hK, E, ef, q⟩ := h
  unfold fB at ef
  cases r1 : fs env with
  | none => rw [r1] at ef; cases ef
  | some p =>
    obtain ⟨ls, e1⟩ := p
    simp only [r1] at ef
    cases r2 : ress e1 ls with
    | none => simp only [r2] at ef; cases ef
    | some ds =>
      simp only [r2] at ef
      cases rg : g ds with
      | none => rw [rg] at ef; cases ef
      | some d' =>
        rw [rg] at ef
        cases ef
        exact ⟨F, env, as, ls, _, hK, E, r1, fun vs H1 as1 E1 S1 i1 => hg H1 (Av as1 F.B) vs ds d _ hK E1.av (i1.c E1 r2) rg fun z H3 gr iz => q z H3 as1 (E1.gr gr) (S1.trans (gr.step _)) iz⟩
theorem tCB_ofF {K : PySem.W.Frag} {r : List V → Hp → VK → Prop} {g : List D → Option D} {fs : FLs} (hg : GLF K r g) {σ : Sg} {H : Hp} {Q : VK} (h : tF K (fB g fs) σ H Q) : tCB r (tLs K fs) σ H Q := by
  obtain ⟨F, env, as, d, env', hK, E, ef, q⟩ := h
  unfold fB at ef
  cases r1 : fs env with
  | none => rw [r1] at ef; cases ef
  | some p =>
    obtain ⟨ls, e1⟩ := p
    simp only [r1] at ef
    cases r2 : ress e1 ls with
    | none => simp only [r2] at ef; cases ef
    | some ds =>
      simp only [r2] at ef
      cases rg : g ds with
      | none => rw [rg] at ef; cases ef
      | some d' =>
        rw [rg] at ef
        cases ef
        refine ⟨F, env, as, ls, _, hK, E, r1, fun vs H1 as1 E1 S1 i1 => hg H1 (Av as1 F.B) vs ds d _ hK E1.av (i1.c E1 r2) rg fun z H3 hz gr iz => q z H3 as1 (E1.more gr hz iz.o.mu E1.trk) (S1.trans (gr.step _)) ?_ iz⟩
        cases hz0 : H z with
        | none => rfl
        | some o => exact absurd hz (S1.dom z (some_ne hz0))
section
variable {X : Cx} {x : Str} {p pos : Pos} {e : Expr} {es : List Expr} {id T : String} {r : List V → Hp → VK → Prop} {g : List D → Option D} {fs : FLs}
theorem de_callB (hc : CallR X (.builtin id) r) (hr : GL X.K r g) (hg : Gl X x) (hm : X.mg x = none) (hv : bootBuiltins x = some (.builtin id)) (ha : PA X (e :: es) (tLs X.K fs)) (hn : x ≠ "__name__" := by decide) (hdb : (x == ("__debug__" : Str)) = false := by decide)
    (he : starEach (e :: es) X.env = (false, eval e X.env) :: starEach es X.env := by rfl) (hpl : (backTo pos (starEach es X.env)).any (·.1) = false := by rfl) : PE X (.Call (.Name x p) (e :: es) [] pos) (tD X.K (fB g fs)) :=
  PE.weak (pe_callB hc hg hm hv ha hn hdb he hpl) fun _ _ _ => tCB_of hr
theorem de_callT (hc : CallR X (.type T) r) (hr : GL X.K r g) (hg : Gl X x) (hm : X.mg x = none) (hv : bootBuiltins x = some (.type T)) (ha : PA X (e :: es) (tLs X.K fs)) (hn : x ≠ "__name__" := by decide) (hdb : (x == ("__debug__" : Str)) = false := by decide)
    (he : starEach (e :: es) X.env = (false, eval e X.env) :: starEach es X.env := by rfl) (hpl : (backTo pos (starEach es X.env)).any (·.1) = false := by rfl) : PE X (.Call (.Name x p) (e :: es) [] pos) (tD X.K (fB g fs)) :=
  PE.weak (pe_callTy hc hg hm hv ha hn hdb he hpl) fun _ _ _ => tCB_of hr
theorem df_callB (hc : CallR X (.builtin id) r) (hr : GLF X.K r g) (hg : Gl X x) (hm : X.mg x = none) (hv : bootBuiltins x = some (.builtin id)) (ha : PA X (e :: es) (tLs X.K fs)) (hn : x ≠ "__name__" := by decide) (hdb : (x == ("__debug__" : Str)) = false := by decide)
    (he : starEach (e :: es) X.env = (false, eval e X.env) :: starEach es X.env := by rfl) (hpl : (backTo pos (starEach es X.env)).any (·.1) = false := by rfl) : PE X (.Call (.Name x p) (e :: es) [] pos) (tF X.K (fB g fs)) :=
  PE.weak (pe_callB hc hg hm hv ha hn hdb he hpl) fun _ _ _ => tCB_ofF hr
theorem df_callT (hc : CallR X (.type T) r) (hr : GLF X.K r g) (hg : Gl X x) (hm : X.mg x = none) (hv : bootBuiltins x = some (.type T)) (ha : PA X (e :: es) (tLs X.K fs)) (hn : x ≠ "__name__" := by decide) (hdb : (x == ("__debug__" : Str)) = false := by decide)
    (he : starEach (e :: es) X.env = (false, eval e X.env) :: starEach es X.env := by rfl) (hpl : (backTo pos (starEach es X.env)).any (·.1) = false := by rfl) : PE X (.Call (.Name x p) (e :: es) [] pos) (tF X.K (fB g fs)) :=
  PE.weak (pe_callTy hc hg hm hv ha hn hdb he hpl) fun _ _ _ => tCB_ofF hr
end
end DL
/-! The data layer: operations by values. -/
namespace DL
open PySem PySem.Spec PyProof.Rows L2

def mx : Nat := 1000000
theorem mx_line {n : Nat} (h : n ≤ mx) : n ≤ sizeLine := by
  rw [sizeLine_eq]
  unfold mx at h
  omega
theorem mx_lt {n : Nat} (h : n < mx) : n < sizeLine := by
  rw [sizeLine_eq]
  unfold mx at h
  omega

/-! ### what data says of its value -/
section
variable {H : Hp} {A : Ax} {v : V}
theorem IsC.int {i : Int} (h : IsC H A v (.int i)) : v = .int i := by
  cases h with
  | d h => cases h; rfl
  | o h => cases h
theorem IsC.bl {b : Bool} (h : IsC H A v (.bl b)) : v = .bl b := by
  cases h with
  | d h => cases h; rfl
  | o h => cases h
theorem IsC.str {b : Str} (h : IsC H A v (.str b)) : v = .str b := by
  cases h with
  | d h => cases h; rfl
  | o h => cases h
theorem IsC.non (h : IsC H A v .non) : v = .non := by
  cases h with
  | d h => cases h; rfl
  | o h => cases h
theorem IsC.lst {ds : List D} (h : IsC H A v (.lst ds)) : ∃ a xs, v = .ref a ∧ H a = some (.lst xs) ∧ IsDs H A xs ds := by
  cases h with
  | d h => cases h with
    | lst e n s => exact ⟨_, _, rfl, e, s⟩
  | o h =>
    obtain ⟨xs, e, s⟩ := h
    exact ⟨_, _, rfl, e, s⟩
theorem IsC.ptp {ds : List D} (h : IsC H A v (.ptp ds)) : ∃ a o xs, v = .ref a ∧ H a = some (.frz o (.tup xs)) ∧ o.dict = none ∧ ¬ A a ∧ IsDs H A xs ds := by
  cases h with
  | d q => cases q with
    | ptp e h n s => exact ⟨_, _, _, rfl, e, h, n, s⟩
  | o q => cases q
theorem IsC.tup {ds : List D} (h : IsC H A v (.tup ds)) : ∃ a xs, v = .ref a ∧ H a = some (.tup xs) ∧ IsDs H A xs ds := by
  cases h with
  | d h => cases h with
    | tup e n s => exact ⟨_, _, rfl, e, s⟩
  | o h => cases h
theorem IsC.frl {ds : List D} (h : IsC H A v (.frl ds)) : ∃ a xs, v = .ref a ∧ SqL A.K H a xs ∧ IsDs H A xs ds := by
  cases h with
  | d h => cases h with
    | frl e s => exact ⟨_, _, rfl, e.elim (fun z => .inl z.1) .inr, s⟩
  | o h => cases h
theorem IsC.dK {ds : List (Key × D)} (h : IsC H A v (.dK ds)) : ∃ a xs, v = .ref a ∧ Rd H a (.dK xs) ∧ IsKs H A xs ds := by
  cases h with
  | d h => cases h with
    | dK e n s => exact ⟨_, _, rfl, e, s⟩
  | o h =>
    obtain ⟨xs, e, s⟩ := h
    exact ⟨_, _, rfl, .inl e, s⟩
theorem IsC.dT {ds : List (List Key × D)} (h : IsC H A v (.dT ds)) : ∃ a xs, v = .ref a ∧ Rd H a (.dT xs) ∧ IsTs H A xs ds := by
  cases h with
  | d h => cases h with
    | dT e n s => exact ⟨_, _, rfl, e, s⟩
  | o h =>
    obtain ⟨xs, e, s⟩ := h
    exact ⟨_, _, rfl, .inl e, s⟩
end

/-! ### lists of ints, bools -/
def ints? : List D → Option (List Int)
  | [] => some []
  | .int i :: r => (ints? r).map (i :: ·)
  | _ :: _ => none
theorem ints?_map : ∀ ns : List Int, ints? (ns.map D.int) = some ns
  | [] => rfl
  | n :: ns => by rw [List.map_cons, ints?, ints?_map ns]; rfl
theorem of_ints? : ∀ {ds : List D} {ns : List Int}, ints? ds = some ns → ds = ns.map D.int
  | [], _, h => by cases h; rfl
  | .int i :: r, ns, h => by
    rw [ints?] at h
    cases e : ints? r with
    | none => rw [e] at h; cases h
    | some z => rw [e] at h; cases h; rw [of_ints? e]; rfl
  | .non :: _, _, h => by cases h
  | .bl _ :: _, _, h => by cases h
  | .str _ :: _, _, h => by cases h
  | .tup _ :: _, _, h => by cases h
  | .lst _ :: _, _, h => by cases h
  | .frl _ :: _, _, h => by cases h
  | .dK _ :: _, _, h => by cases h
  | .dT _ :: _, _, h => by cases h
def bls? : List D → Option (List Bool)
  | [] => some []
  | .bl i :: r => (bls? r).map (i :: ·)
  | _ :: _ => none
theorem bls?_map : ∀ ns : List Bool, bls? (ns.map D.bl) = some ns
  | [] => rfl
  | n :: ns => by rw [List.map_cons, bls?, bls?_map ns]; rfl
theorem of_bls? : ∀ {ds : List D} {ns : List Bool}, bls? ds = some ns → ds = ns.map D.bl
  | [], _, h => by cases h; rfl
  | .bl i :: r, ns, h => by
    rw [bls?] at h
    cases e : bls? r with
    | none => rw [e] at h; cases h
    | some z => rw [e] at h; cases h; rw [of_bls? e]; rfl
  | .non :: _, _, h => by cases h
  | .int _ :: _, _, h => by cases h
  | .str _ :: _, _, h => by cases h
  | .tup _ :: _, _, h => by cases h
  | .lst _ :: _, _, h => by cases h
  | .frl _ :: _, _, h => by cases h
  | .dK _ :: _, _, h => by cases h
  | .dT _ :: _, _, h => by cases h
theorem IsDs.ints {H : Hp} {A : Ax} : ∀ {ns : List Int} {xs : List V}, IsDs H A xs (ns.map D.int) → xs = ns.map V.int
  | [], _, .nil => rfl
  | n :: ns, _, .cons h t => by
    cases h
    rw [IsDs.ints t]
    rfl
theorem IsDs.bls {H : Hp} {A : Ax} : ∀ {ns : List Bool} {xs : List V}, IsDs H A xs (ns.map D.bl) → xs = ns.map V.bl
  | [], _, .nil => rfl
  | n :: ns, _, .cons h t => by
    cases h
    rw [IsDs.bls t]
    rfl
theorem isDs_ints {H : Hp} {A : Ax} : ∀ ns : List Int, IsDs H A (ns.map V.int) (ns.map D.int)
  | [] => .nil
  | n :: ns => .cons (.int n) (isDs_ints ns)

/-! ### data as the library's data -/
mutual
def py : D → PyData
  | .non => .none
  | .bl b => .bool b
  | .int i => .int i
  | .str x => .str x
  | .tup xs => .tuple (pys xs)
  | .ptp xs => .tuple (pys xs)
  | .lst xs => .list (pys xs)
  | .frl xs => .list (pys xs)
  | .dK _ => .dict []
  | .dT _ => .dict []
def pys : List D → List PyData
  | [] => []
  | d :: ds => py d :: pys ds
end
theorem pys_map : ∀ ds : List D, pys ds = ds.map py
  | [] => rfl
  | d :: ds => by rw [pys, pys_map ds]; rfl
mutual
theorem IsD.dp {H : Hp} {A : Ax} : ∀ {v : V} {d : D}, IsD H A v d → (py d).canLay0 = true → Dp A.K H v (py d)
  | _, _, .non, _ => by rw [py]; exact .non
  | _, _, .bl b, _ => by rw [py]; exact .bl b
  | _, _, .int i, _ => by rw [py]; exact .int i
  | _, _, .str x, _ => by rw [py]; exact .str x
  | _, _, .tup r n s, h => by
    rw [py] at h ⊢
    exact .tup (SqT.of r) (IsDs.dp s (by rw [PyData.canLay0] at h; exact h))
  | _, _, .ptp r _ n s, h => by
    rw [py] at h ⊢
    exact .tup (.inl (.inr ⟨_, r⟩)) (IsDs.dp s (by rw [PyData.canLay0] at h; exact h))
  | _, _, .lst r n s, h => by
    rw [py] at h ⊢
    exact .lst (SqL.of r) (IsDs.dp s (by rw [PyData.canLay0] at h; exact h))
  | _, _, .frl r s, h => by
    rw [py] at h ⊢
    exact .lst (r.elim (fun z => .inl z.1) .inr) (IsDs.dp s (by rw [PyData.canLay0] at h; exact h))
  | _, _, .dK r n s, h => by rw [py, PyData.canLay0] at h; cases h
  | _, _, .dT r n s, h => by rw [py, PyData.canLay0] at h; cases h
theorem IsDs.dp {H : Hp} {A : Ax} : ∀ {v : List V} {d : List D}, IsDs H A v d → PyData.canLayAll0 (pys d) = true → DpAll A.K H v (pys d)
  | _, _, .nil, _ => by rw [pys]; exact .nil
  | _, _, .cons h t, c => by
    rw [pys] at c ⊢
    rw [PyData.canLayAll0, Bool.and_eq_true] at c
    exact .cons (IsD.dp h c.1) (IsDs.dp t c.2)
end
theorem IsC.dp {H : Hp} {A : Ax} {v : V} {d : D} (h : IsC H A v d) (c : (py d).canLay0 = true) : Dp A.K H v (py d) := by
  cases h with
  | d h => exact h.dp c
  | o h =>
    cases d with
    | lst ds =>
      obtain ⟨xs, e, s⟩ := h
      rw [py] at c ⊢
      exact .lst (SqL.of e) (s.dp (by rw [PyData.canLay0] at c; exact c))
    | dK ds => rw [py, PyData.canLay0] at c; cases c
    | dT ds => rw [py, PyData.canLay0] at c; cases c
    | _ => exact absurd h id

/-! ### new objects -/
theorem av_add {H : Hp} {A : Ax} {p : Addr} (hp : H p = none) : Kp H A H (A.add p) := ⟨rfl, fun _ _ e _ => e, fun _ _ e _ => e, fun _ _ e _ => e, fun a e n z => z.elim n fun z => e (z ▸ hp)⟩
theorem Kp.tr {H H1 H2 : Hp} {A A1 A2 : Ax} (a : Kp H A H1 A1) (b : Kp H1 A1 H2 A2) (d : ∀ x, H x ≠ none → H1 x ≠ none) : Kp H A H2 A2 :=
  ⟨b.kk.trans a.kk, fun x xs e n => b.tp x xs (a.tp x xs e n) (a.av x (some_ne e) n), fun x xs e n => b.ls x xs (a.ls x xs e n) (a.av x (some_ne e) n), fun x u e n => b.rd x u (a.rd x u e n) (a.av x (Rd.ne e) n), fun x e n => b.av x (d x e) (a.av x e n)⟩
theorem kp_new {H : Hp} {A : Ax} {p : Addr} {o : HO} (hp : H p = none) : Kp H A (upd H p o) (A.add p) := (av_add hp).tr ((Gr.new hp).kp _) fun _ e => e
theorem newAt_lst {H : Hp} {A : Ax} {p : Addr} {xs : List V} {ds : List D} (hp : H p = none) (hA : ∀ p, A p → H p ≠ none) (h : IsDs H A xs ds) : NewAt (upd H p (.lst xs)) A p (.lst ds) :=
  ⟨fun z => hA p z hp, _, upd_same, h.kp (kp_new hp)⟩
theorem new_lst {H : Hp} {A : Ax} {p : Addr} {xs : List V} {ds : List D} (hp : H p = none) (hA : ∀ p, A p → H p ≠ none) (h : IsDs H A xs ds) : IsD (upd H p (.lst xs)) A (.ref p) (.lst ds) :=
  .lst upd_same (fun z => hA p z hp) (h.kp ((Gr.new hp).kp A))
theorem new_tup {H : Hp} {A : Ax} {p : Addr} {xs : List V} {ds : List D} (hp : H p = none) (hA : ∀ p, A p → H p ≠ none) (h : IsDs H A xs ds) : IsD (upd H p (.tup xs)) A (.ref p) (.tup ds) :=
  .tup upd_same (fun z => hA p z hp) (h.kp ((Gr.new hp).kp A))


theorem IsC.tupD {H : Hp} {A : Ax} {v : V} {ds : List D} (h : IsC H A v (.tup ds)) : IsD H A v (.tup ds) := by
  cases h with
  | d h => exact h
  | o h => cases h
theorem IsCs.one {H : Hp} {A : Ax} {xs : List V} {d : D} (h : IsCs H A xs [d]) : ∃ v, xs = [v] ∧ IsC H A v d := by
  cases h with
  | cons h t => cases t; exact ⟨_, rfl, h⟩
theorem IsCs.two {H : Hp} {A : Ax} {xs : List V} {d e : D} (h : IsCs H A xs [d, e]) : ∃ v u, xs = [v, u] ∧ IsC H A v d ∧ IsC H A u e := by
  cases h with
  | cons h t => cases t with
    | cons h2 t => cases t; exact ⟨_, _, rfl, h, h2⟩

/-! ### arithmetic -/
def gAdd : D → D → Option D
  | .int i, .int j => some (.int (i + j))
  | .lst x, .lst y => if x.length + y.length ≤ mx then some (.lst (x ++ y)) else none
  | .tup x, .tup y => if x.length + y.length ≤ mx then some (.tup (x ++ y)) else none
  | _, _ => none
def rAddA (K : PySem.W.Frag) : R2 := fun x y H Q => (rI0 fun i j => .int (i + j)) x y H Q ∨ (rCat x y H Q ∨ rCatA K x y H Q)
theorem op_addA {X : Cx} : OpR X (binaryOp .Add) (rAddA X.K) := op_add.or (op_cat.or op_catA)
theorem g_add {K : PySem.W.Frag} : G2 K (rAddA K) gAdd := by
  intro H A x y a b d Q hK hA hx hy hg q
  unfold gAdd at hg
  split at hg
  · cases hg
    rw [hx.int, hy.int]
    exact .inl ⟨_, _, rfl, rfl, q _ H (Gr.refl H) (.int _)⟩
  · split at hg
    · rename_i hl
      cases hg
      obtain ⟨l, xs, rfl, e1, s1⟩ := hx.lst
      obtain ⟨l2, ys, rfl, e2, s2⟩ := hy.lst
      refine .inr (.inl ⟨l, l2, xs, ys, rfl, rfl, e1, e2, by rw [s1.length, s2.length]; exact mx_line hl, fun p hp => q _ _ (Gr.new hp) (new_lst hp hA (s1.append s2))⟩)
    · cases hg
  · split at hg
    · rename_i u1 u2 u3 u4 hl
      cases hg
      have dx := hx.tupD
      have dy := hy.tupD
      obtain ⟨l, xs, rfl, e1, s1⟩ := hx.tup
      obtain ⟨l2, ys, rfl, e2, s2⟩ := hy.tup
      refine .inr (.inr ⟨l, l2, xs, ys, rfl, rfl, SqT.of e1, SqT.of e2, by rw [s1.length, s2.length]; exact mx_line hl, fun z => ?_, fun _ z => ?_, fun _ _ p hp => q _ _ (Gr.new hp) (new_tup hp hA (s1.append s2))⟩)
      · subst z
        cases s1
        exact q _ H (Gr.refl H) dy
      · subst z
        cases s2
        rw [List.append_nil] at q
        exact q _ H (Gr.refl H) dx
    · cases hg
  · cases hg
def gSub : D → D → Option D
  | .int i, .int j => some (.int (i - j))
  | _, _ => none
theorem g_sub {K : PySem.W.Frag} : G2 K (rI0 fun i j => .int (i - j)) gSub := by
  intro H A x y a b d Q hK hA hx hy hg q
  unfold gSub at hg
  split at hg
  · cases hg
    rw [hx.int, hy.int]
    exact ⟨_, _, rfl, rfl, q _ H (Gr.refl H) (.int _)⟩
  · cases hg
/-- products: one factor below 2^64; a list or tuple often -/
def small64 (i : Int) : Bool := decide (-(2 ^ 64) < i) && decide (i < 2 ^ 64)
def gMul : D → D → Option D
  | .int i, .int j => if small64 i || small64 j then some (.int (i * j)) else none
  | .lst x, .int k => if 0 ≤ k ∧ k ≤ 100000 ∧ x.length * k.toNat ≤ mx then some (.lst (List.replicate k.toNat x).flatten) else none
  | _, _ => none
def rMulA : R2 := fun x y H Q => (rI CMul fun i j => .int (i * j)) x y H Q ∨ rRep x y H Q
theorem op_mulA {X : Cx} : OpR X (binaryOp .Mult) rMulA := op_mul.or op_rep
theorem IsDs.rep {H : Hp} {A : Ax} {vs : List V} {ds : List D} (h : IsDs H A vs ds) : ∀ k : Nat, IsDs H A (List.replicate k vs).flatten (List.replicate k ds).flatten
  | 0 => .nil
  | k + 1 => by
    rw [List.replicate_succ, List.replicate_succ, List.flatten_cons, List.flatten_cons]
    exact h.append (IsDs.rep h k)
theorem of_small64 {i : Int} (h : small64 i = true) : -(2 ^ 64) < i ∧ i < 2 ^ 64 := by
  unfold small64 at h
  rw [Bool.and_eq_true, decide_eq_true_eq, decide_eq_true_eq] at h
  exact h
theorem g_mul {K : PySem.W.Frag} : G2 K rMulA gMul := by
  intro H A x y a b d Q hK hA hx hy hg q
  unfold gMul at hg
  split at hg
  · split at hg
    · rename_i hs
      cases hg
      rw [hx.int, hy.int]
      refine .inl ⟨_, _, rfl, rfl, ?_, q _ H (Gr.refl H) (.int _)⟩
      rw [Bool.or_eq_true] at hs
      exact hs.imp of_small64 of_small64
    · cases hg
  · split at hg
    · rename_i hl
      cases hg
      rw [hy.int]
      obtain ⟨l, xs, rfl, e1, s1⟩ := hx.lst
      refine .inr ⟨l, _, xs, rfl, rfl, e1, by omega, by omega, by rw [s1.length]; exact mx_line hl.2.2, fun p hp => q _ _ (Gr.new hp) (new_lst hp hA (s1.rep _))⟩
    · cases hg
  · cases hg
def gFdiv : D → D → Option D
  | .int i, .int j => if j ≠ 0 ∧ j.natAbs < 1073741824 then some (.int (i.fdiv j)) else none
  | _, _ => none
theorem g_fdiv {K : PySem.W.Frag} : G2 K (rI CDivN fun i j => .int (i.fdiv j)) gFdiv := by
  intro H A x y a b d Q hK hA hx hy hg q
  unfold gFdiv at hg
  split at hg
  · split at hg
    · rename_i hs
      cases hg
      rw [hx.int, hy.int]
      exact ⟨_, _, rfl, rfl, hs, q _ H (Gr.refl H) (.int _)⟩
    · cases hg
  · cases hg
def gMod : D → D → Option D
  | .int i, .int j => if j ≠ 0 then some (.int (i.fmod j)) else none
  | _, _ => none
theorem g_mod {K : PySem.W.Frag} : G2 K (rI (fun _ j => j ≠ 0) fun i j => .int (i.fmod j)) gMod := by
  intro H A x y a b d Q hK hA hx hy hg q
  unfold gMod at hg
  split at hg
  · split at hg
    · rename_i hs
      cases hg
      rw [hx.int, hy.int]
      exact ⟨_, _, rfl, rfl, hs, q _ H (Gr.refl H) (.int _)⟩
    · cases hg
  · cases hg
def CPowW (i j : Int) : Prop := 0 ≤ j ∧ (Builtin.Int.intBits i : Int) * j ≤ 2 ^ 27
theorem op_powW {X : Cx} : OpR X (binaryOp .Pow) (rI CPowW fun i j => .int (i ^ j.toNat)) := opI fun _ _ _ _ _ _ _ hc q => pow_int hc.1 hc.2 q
def gPow : D → D → Option D
  | .int i, .int j => if 0 ≤ j ∧ (Builtin.Int.intBits i : Int) * j ≤ 2 ^ 27 then some (.int (i ^ j.toNat)) else none
  | _, _ => none
theorem g_pow {K : PySem.W.Frag} : G2 K (rI CPowW fun i j => .int (i ^ j.toNat)) gPow := by
  intro H A x y a b d Q hK hA hx hy hg q
  unfold gPow at hg
  split at hg
  · split at hg
    · rename_i hs
      cases hg
      rw [hx.int, hy.int]
      exact ⟨_, _, rfl, rfl, hs, q _ H (Gr.refl H) (.int _)⟩
    · cases hg
  · cases hg

/-! ### comparisons -/
def gCmp (p : Int → Int → Bool) : D → D → Option D
  | .int i, .int j => some (.bl (p i j))
  | _, _ => none
theorem g_cmp {K : PySem.W.Frag} {p : Int → Int → Bool} : G2 K (rI0 fun i j => .bl (p i j)) (gCmp p) := by
  intro H A x y a b d Q hK hA hx hy hg q
  unfold gCmp at hg
  split at hg
  · cases hg
    rw [hx.int, hy.int]
    exact ⟨_, _, rfl, rfl, q _ H (Gr.refl H) (.bl _)⟩
  · cases hg
abbrev gLt : D → D → Option D := gCmp fun i j => decide (i < j)
abbrev gLe : D → D → Option D := gCmp fun i j => decide (i ≤ j)
abbrev gGt : D → D → Option D := gCmp fun i j => decide (j < i)
abbrev gGe : D → D → Option D := gCmp fun i j => decide (j ≤ i)
/-- ==: ints, texts apart; else as data -/
def gEqB : D → D → Option Bool
  | .int i, .int j => some (decide (i = j))
  | .str x, .str y => some (decide (x = y))
  | a, b => if SeqAt.shaped (py a) && SeqAt.shaped (py b) then some (PyData.eqv (py a) (py b)) else none
def gEq (a b : D) : Option D := (gEqB a b).map .bl
def gNe (a b : D) : Option D := (gEqB a b).map fun k => .bl (!k)
def rEqA (K : PySem.W.Frag) : R2 := fun x y H Q => rEq x y H Q ∨ rEqD K x y H Q
def rNeA (K : PySem.W.Frag) : R2 := fun x y H Q => rNe x y H Q ∨ rNeD K x y H Q
theorem op_eqA {X : Cx} (hu : X.A.units + 64 < cLine) : OpR X (compareOp .Eq) (rEqA X.K) := op_eq.or (op_eqD hu)
theorem op_neA {X : Cx} (hu : X.A.units + 64 < cLine) : OpR X (compareOp .NotEq) (rNeA X.K) := op_ne.or (op_neD hu)
theorem eqB_cases {K : PySem.W.Frag} {H : Hp} {A : Ax} {x y : V} {a b : D} {k : Bool} (hx : IsC H A x a) (hy : IsC H A y b) (hg : gEqB a b = some k) (hK : A.K = K) :
    (scal x y = true ∧ decide (x = y) = k) ∨ ∃ d e, Dp K H x d ∧ Dp K H y e ∧ SeqAt.shaped d = true ∧ SeqAt.shaped e = true ∧ PyData.eqv d e = k := by
  unfold gEqB at hg
  split at hg
  · cases hg
    rw [hx.int, hy.int]
    refine .inl ⟨rfl, ?_⟩
    rw [dec_int, Bool.beq_eq_decide_eq]
  · cases hg
    rw [hx.str, hy.str]
    refine .inl ⟨rfl, ?_⟩
    rw [dec_str]
    exact Bool.eq_iff_iff.mpr (by rw [decide_eq_true_iff]; exact beq_iff_eq)
  · split at hg
    · rename_i hs
      rw [Bool.and_eq_true] at hs
      cases hg
      subst hK
      exact .inr ⟨_, _, hx.dp (SeqAt.canLay_of_shaped hs.1), hy.dp (SeqAt.canLay_of_shaped hs.2), hs.1, hs.2, rfl⟩
    · cases hg
theorem g_eq {K : PySem.W.Frag} : G2 K (rEqA K) gEq := by
  intro H A x y a b d Q hK hA hx hy hg q
  unfold gEq at hg
  cases e : gEqB a b with
  | none => rw [e] at hg; cases hg
  | some k =>
    rw [e] at hg
    cases hg
    rcases eqB_cases (K := K) hx hy e hK with ⟨h1, h2⟩ | ⟨d, e, h1, h2, h3, h4, h5⟩
    · exact .inl ⟨h1, by rw [h2]; exact q _ H (Gr.refl H) (.bl _)⟩
    · exact .inr ⟨d, e, h1, h2, h3, h4, by rw [h5]; exact q _ H (Gr.refl H) (.bl _)⟩
theorem g_ne {K : PySem.W.Frag} : G2 K (rNeA K) gNe := by
  intro H A x y a b d Q hK hA hx hy hg q
  unfold gNe at hg
  cases e : gEqB a b with
  | none => rw [e] at hg; cases hg
  | some k =>
    rw [e] at hg
    cases hg
    rcases eqB_cases (K := K) hx hy e hK with ⟨h1, h2⟩ | ⟨d, e, h1, h2, h3, h4, h5⟩
    · exact .inl ⟨h1, by rw [h2]; exact q _ H (Gr.refl H) (.bl _)⟩
    · exact .inr ⟨d, e, h1, h2, h3, h4, by rw [h5]; exact q _ H (Gr.refl H) (.bl _)⟩
/-- is None; is of bools -/
def gIsB : D → D → Option Bool
  | .non, .non => some true
  | .bl _, .non => some false
  | .int _, .non => some false
  | .str _, .non => some false
  | .tup _, .non => some false
  | .lst _, .non => some false
  | .frl _, .non => some false
  | .dK _, .non => some false
  | .dT _, .non => some false
  | .bl a, .bl b => some (decide (a = b))
  | _, _ => none
def gIs (a b : D) : Option D := (gIsB a b).map .bl
def gIsNot (a b : D) : Option D := (gIsB a b).map fun k => .bl (!k)
def rIsA : R2 := fun x y H Q => (y = .non ∧ Q (.bl (decide (x = .non))) H) ∨ rIsB x y H Q
def rIsNotA : R2 := fun x y H Q => (y = .non ∧ Q (.bl (!decide (x = .non))) H) ∨ rNotB x y H Q
theorem op_isA {X : Cx} : OpR X (compareOp .Is) rIsA := op_isN.or op_isBl
theorem op_isNotA {X : Cx} : OpR X (compareOp .IsNot) rIsNotA := op_notN.or op_notBl
theorem isB_cases {H : Hp} {A : Ax} {x y : V} {a b : D} {k : Bool} (hx : IsC H A x a) (hy : IsC H A y b) (hg : gIsB a b = some k) :
    (y = .non ∧ decide (x = .non) = k) ∨ ∃ p q : Bool, x = .bl p ∧ y = .bl q ∧ decide (p = q) = k := by
  unfold gIsB at hg
  split at hg
  · cases hg; rw [hx.non, hy.non]; exact .inl ⟨rfl, rfl⟩
  · cases hg; rw [hx.bl, hy.non]; exact .inl ⟨rfl, rfl⟩
  · cases hg; rw [hx.int, hy.non]; exact .inl ⟨rfl, rfl⟩
  · cases hg; rw [hx.str, hy.non]; exact .inl ⟨rfl, rfl⟩
  · cases hg; obtain ⟨p, _, rfl, _⟩ := hx.tup; rw [hy.non]; exact .inl ⟨rfl, rfl⟩
  · cases hg; obtain ⟨p, _, rfl, _⟩ := hx.lst; rw [hy.non]; exact .inl ⟨rfl, rfl⟩
  · cases hg; obtain ⟨p, _, rfl, _⟩ := hx.frl; rw [hy.non]; exact .inl ⟨rfl, rfl⟩
  · cases hg; obtain ⟨p, _, rfl, _⟩ := hx.dK; rw [hy.non]; exact .inl ⟨rfl, rfl⟩
  · cases hg; obtain ⟨p, _, rfl, _⟩ := hx.dT; rw [hy.non]; exact .inl ⟨rfl, rfl⟩
  · cases hg; rw [hx.bl, hy.bl]; exact .inr ⟨_, _, rfl, rfl, rfl⟩
  · cases hg
theorem g_is {K : PySem.W.Frag} : G2 K rIsA gIs := by
  intro H A x y a b d Q hK hA hx hy hg q
  unfold gIs at hg
  cases e : gIsB a b with
  | none => rw [e] at hg; cases hg
  | some k =>
    rw [e] at hg
    cases hg
    rcases isB_cases hx hy e with ⟨h1, h2⟩ | ⟨p, p', h1, h2, h3⟩
    · exact .inl ⟨h1, by rw [h2]; exact q _ H (Gr.refl H) (.bl _)⟩
    · exact .inr ⟨p, p', h1, h2, by rw [h3]; exact q _ H (Gr.refl H) (.bl _)⟩
theorem g_isNot {K : PySem.W.Frag} : G2 K rIsNotA gIsNot := by
  intro H A x y a b d Q hK hA hx hy hg q
  unfold gIsNot at hg
  cases e : gIsB a b with
  | none => rw [e] at hg; cases hg
  | some k =>
    rw [e] at hg
    cases hg
    rcases isB_cases hx hy e with ⟨h1, h2⟩ | ⟨p, p', h1, h2, h3⟩
    · exact .inl ⟨h1, by rw [h2]; exact q _ H (Gr.refl H) (.bl _)⟩
    · exact .inr ⟨p, p', h1, h2, by rw [h3]; exact q _ H (Gr.refl H) (.bl _)⟩

/-! ### keys, dicts read -/
def keyOf : D → Option Key
  | .int i => some (.inl i)
  | .str x => some (.inr x)
  | _ => none
def keysOf : List D → Option (List Key)
  | [] => some []
  | d :: ds => match keyOf d, keysOf ds with
    | some k, some ks => some (k :: ks)
    | _, _ => none
theorem keyOf_is {H : Hp} {A : Ax} {v : V} {d : D} {k : Key} (h : IsC H A v d) (e : keyOf d = some k) : v = kV k := by
  unfold keyOf at e
  split at e
  · cases e; exact h.int
  · cases e; exact h.str
  · cases e
theorem keysOf_is {H : Hp} {A : Ax} : ∀ {vs : List V} {ds : List D} {ks : List Key}, IsDs H A vs ds → keysOf ds = some ks → vs = ks.map kV
  | _, _, _, .nil, e => by cases e; rfl
  | _, _, ks, .cons (d := d) (ds := ds) h t, e => by
    rw [keysOf] at e
    cases e1 : keyOf d with
    | none => rw [e1] at e; cases e
    | some k =>
      cases e2 : keysOf ds with
      | none => rw [e1, e2] at e; cases e
      | some ks' =>
        rw [e1, e2] at e
        cases e
        rw [keyOf_is (.d h) e1, keysOf_is t e2]
        rfl
def dfind {κ : Type} [DecidableEq κ] (kvs : List (κ × D)) (k : κ) : Option D := (kvs.find? fun kv => decide (kv.1 = k)).map (·.2)
def dput {κ : Type} [DecidableEq κ] (kvs : List (κ × D)) (k : κ) (d : D) : List (κ × D) :=
  if kvs.any fun kv => decide (kv.1 = k) then kvs.map fun kv => if kv.1 = k then (kv.1, d) else kv else kvs ++ [(k, d)]
theorem dfind_cons {κ : Type} [DecidableEq κ] (p : κ × D) (r : List (κ × D)) (k : κ) : dfind (p :: r) k = if p.1 = k then some p.2 else dfind r k := by
  unfold dfind
  rw [List.find?_cons]
  by_cases e : p.1 = k
  · rw [if_pos e, decide_eq_true e]; rfl
  · rw [if_neg e, decide_eq_false e]
theorem valV_cons {κ : Type} [DecidableEq κ] (p : κ × V) (r : List (κ × V)) (k : κ) : valV (p :: r) k = if p.1 = k then some p.2 else valV r k := by
  by_cases e : p.1 = k
  · rw [if_pos e, valV_pos e]
  · rw [if_neg e, valV_neg e]
/-- what is found -/
inductive OpD (H : Hp) (A : Ax) : Option V → Option D → Prop
  | none : OpD H A none none
  | some {v : V} {d : D} : IsD H A v d → OpD H A (some v) (some d)
theorem OpD.isSome {H : Hp} {A : Ax} {o : Option V} {p : Option D} (h : OpD H A o p) : o.isSome = p.isSome := by cases h <;> rfl
theorem IsKs.find {H : Hp} {A : Ax} {k : Key} : ∀ {kvs : List (Key × V)} {ds : List (Key × D)}, IsKs H A kvs ds → OpD H A (valV kvs k) (dfind ds k)
  | _, _, .nil => .none
  | _, _, .cons h t => by
    rw [valV_cons, dfind_cons]
    dsimp only
    split
    · exact .some h
    · exact IsKs.find t
theorem IsTs.find {H : Hp} {A : Ax} {k : List Key} : ∀ {kvs : List (List Key × V)} {ds : List (List Key × D)}, IsTs H A kvs ds → OpD H A (valV kvs k) (dfind ds k)
  | _, _, .nil => .none
  | _, _, .cons h t => by
    rw [valV_cons, dfind_cons]
    dsimp only
    split
    · exact .some h
    · exact IsTs.find t
/-- what a dict holds at a key -/
def dAt : D → D → Option (Option D)
  | .dK ds, k => (keyOf k).map fun k => dfind ds k
  | .dT ds, .tup ks => (keysOf ks).map fun k => dfind ds k
  | _, _ => none
theorem dAt_get {H : Hp} {A : Ax} {x y : V} {a b : D} {r : Option D} (hx : IsC H A x a) (hy : IsC H A y b) (e : dAt a b = some r) : ∃ p o, x = .ref p ∧ DGet H p y o ∧ OpD H A o r := by
  unfold dAt at e
  split at e
  · rename_i ds k
    obtain ⟨p, kvs, rfl, hr, hk⟩ := hx.dK
    cases e1 : keyOf b with
    | none => rw [e1] at e; cases e
    | some k =>
      rw [e1] at e
      cases e
      exact ⟨p, _, rfl, .inl ⟨kvs, k, hr, keyOf_is hy e1, rfl⟩, hk.find⟩
  · rename_i ds ks
    obtain ⟨p, kvs, rfl, hr, hk⟩ := hx.dT
    obtain ⟨q, vs, rfl, hq, hv⟩ := hy.tup
    cases e1 : keysOf ks with
    | none => rw [e1] at e; cases e
    | some k =>
      rw [e1] at e
      cases e
      exact ⟨p, _, rfl, .inr ⟨kvs, k, q, hr, rfl, by rw [hq, keysOf_is hv e1], rfl⟩, hk.find⟩
  · cases e

/-! ### in -/
def inD (d : D) (ds : List D) : Bool := ds.any fun z => PyData.eqv (py z) (py d)
def gInB : D → D → Option Bool
  | d, .lst ds => if SeqAt.shaped (py d) && SeqAt.shaped (.list (pys ds)) then some (inD d ds) else none
  | .int i, .tup ds => (ints? ds).map fun ns => ns.any fun n => n == i
  | k, .dK ds => (dAt (.dK ds) k).map (·.isSome)
  | k, .dT ds => (dAt (.dT ds) k).map (·.isSome)
  | _, _ => none
def gIn (a b : D) : Option D := (gInB a b).map .bl
def gNotIn (a b : D) : Option D := (gInB a b).map fun k => .bl (!k)
def rInDict (neg : Bool) : R2 := fun x y H Q => ∃ p o, y = .ref p ∧ DGet H p x o ∧ Q (.bl (if neg then !o.isSome else o.isSome)) H
theorem op_inDict {X : Cx} (hu : X.A.units + 1 < cLine) : OpR X (compareOp .In) (rInDict false) := by
  intro pins s σ H x y v u Q I rx ry h
  obtain ⟨p, o, rfl, g, q⟩ := h
  cases ry
  exact d_in hu I g rx fun s' I' => ⟨.bl _, H, I', rfl, q⟩
theorem op_notInDict {X : Cx} (hu : X.A.units + 1 < cLine) : OpR X (compareOp .NotIn) (rInDict true) := by
  intro pins s σ H x y v u Q I rx ry h
  obtain ⟨p, o, rfl, g, q⟩ := h
  cases ry
  exact d_notIn hu I g rx fun s' I' => ⟨.bl _, H, I', rfl, q⟩
def rInA (K : PySem.W.Frag) : R2 := fun x y H Q => rInD K x y H Q ∨ (rIn K false x y H Q ∨ rInDict false x y H Q)
def rNotInA (K : PySem.W.Frag) : R2 := fun x y H Q => rNotInD K x y H Q ∨ (rIn K true x y H Q ∨ rInDict true x y H Q)
theorem op_inA {X : Cx} (hu : X.A.units + 65 < cLine) : OpR X (compareOp .In) (rInA X.K) := (op_inD hu).or (op_in_seq.or (op_inDict (by omega)))
theorem op_notInA {X : Cx} (hu : X.A.units + 65 < cLine) : OpR X (compareOp .NotIn) (rNotInA X.K) := (op_notInD hu).or (op_notIn_seq.or (op_notInDict (by omega)))
theorem inV_ints (i : Int) : ∀ ns : List Int, inV (.int i) (ns.map V.int) = ns.any fun n => n == i
  | [] => rfl
  | n :: ns => by
    have h := inV_ints i ns
    unfold inV at h ⊢
    rw [List.map_cons, List.any_cons, List.any_cons, h]
    rfl
theorem flat_ints : ∀ ns : List Int, (ns.map V.int).all flatV = true
  | [] => rfl
  | n :: ns => by rw [List.map_cons, List.all_cons, flat_ints ns]; rfl
theorem inB_cases {K : PySem.W.Frag} {H : Hp} {A : Ax} {x y : V} {a b : D} {k : Bool} (hx : IsC H A x a) (hy : IsC H A y b) (hg : gInB a b = some k) (hK : A.K = K) :
    (∃ d ds, Dp K H x d ∧ Dp K H y (.list ds) ∧ SeqAt.shaped d = true ∧ SeqAt.shaped (.list ds) = true ∧ (ds.any fun z => PyData.eqv z d) = k) ∨
    (∃ p xs, y = .ref p ∧ (SqL K H p xs ∨ SqT K H p xs) ∧ flatV x = true ∧ xs.all flatV = true ∧ inV x xs = k) ∨
    ∃ p o, y = .ref p ∧ DGet H p x o ∧ o.isSome = k := by
  unfold gInB at hg
  split at hg
  · split at hg
    · rename_i ds hs
      rw [Bool.and_eq_true] at hs
      cases hg
      subst hK
      refine .inl ⟨_, pys ds, hx.dp (SeqAt.canLay_of_shaped hs.1), ?_, hs.1, hs.2, ?_⟩
      · have := hy.dp (by rw [py]; exact SeqAt.canLay_of_shaped hs.2)
        rw [py] at this
        exact this
      · unfold inD
        rw [pys_map, List.any_map]
        rfl
    · cases hg
  · rename_i i ds
    cases e : ints? ds with
    | none => rw [e] at hg; cases hg
    | some ns =>
      rw [e] at hg
      cases hg
      rw [of_ints? e] at hy
      obtain ⟨p, xs, rfl, hr, hs⟩ := hy.tup
      rw [hs.ints] at hr
      rw [hx.int]
      exact .inr (.inl ⟨p, _, rfl, .inr (SqT.of hr), rfl, flat_ints ns, inV_ints i ns⟩)
  · cases e : dAt (.dK ‹_›) a with
    | none => rw [e] at hg; cases hg
    | some r =>
      rw [e] at hg
      cases hg
      obtain ⟨p, o, rfl, h1, h2⟩ := dAt_get hy hx e
      exact .inr (.inr ⟨p, o, rfl, h1, h2.isSome⟩)
  · cases e : dAt (.dT ‹_›) a with
    | none => rw [e] at hg; cases hg
    | some r =>
      rw [e] at hg
      cases hg
      obtain ⟨p, o, rfl, h1, h2⟩ := dAt_get hy hx e
      exact .inr (.inr ⟨p, o, rfl, h1, h2.isSome⟩)
  · cases hg
theorem g_in {K : PySem.W.Frag} : G2 K (rInA K) gIn := by
  intro H A x y a b d Q hK hA hx hy hg q
  unfold gIn at hg
  cases e : gInB a b with
  | none => rw [e] at hg; cases hg
  | some k =>
    rw [e] at hg
    cases hg
    rcases inB_cases (K := K) hx hy e hK with ⟨d, ds, h1, h2, h3, h4, h5⟩ | ⟨p, xs, h1, h2, h3, h4, h5⟩ | ⟨p, o, h1, h2, h3⟩
    · exact .inl ⟨d, ds, h1, h2, h3, h4, by rw [h5]; exact q _ H (Gr.refl H) (.bl _)⟩
    · exact .inr (.inl ⟨p, xs, h1, h2, h3, h4, by rw [h5]; exact q _ H (Gr.refl H) (.bl _)⟩)
    · exact .inr (.inr ⟨p, o, h1, h2, by rw [h3]; exact q _ H (Gr.refl H) (.bl _)⟩)
theorem g_notIn {K : PySem.W.Frag} : G2 K (rNotInA K) gNotIn := by
  intro H A x y a b d Q hK hA hx hy hg q
  unfold gNotIn at hg
  cases e : gInB a b with
  | none => rw [e] at hg; cases hg
  | some k =>
    rw [e] at hg
    cases hg
    rcases inB_cases (K := K) hx hy e hK with ⟨d, ds, h1, h2, h3, h4, h5⟩ | ⟨p, xs, h1, h2, h3, h4, h5⟩ | ⟨p, o, h1, h2, h3⟩
    · exact .inl ⟨d, ds, h1, h2, h3, h4, by rw [h5]; exact q _ H (Gr.refl H) (.bl _)⟩
    · exact .inr (.inl ⟨p, xs, h1, h2, h3, h4, by rw [h5]; exact q _ H (Gr.refl H) (.bl _)⟩)
    · exact .inr (.inr ⟨p, o, h1, h2, by rw [h3]; exact q _ H (Gr.refl H) (.bl _)⟩)

/-! ### subscripts -/
def gIx : D → D → Option D
  | .lst ds, .int i => atI ds i
  | .tup ds, .int i => atI ds i
  | .frl ds, .int i => atI ds i
  | .ptp ds, .int i => atI ds i
  | .dK ds, k => (dAt (.dK ds) k).bind id
  | .dT ds, k => (dAt (.dT ds) k).bind id
  | _, _ => none
def rIxDict : R2 := fun x y H Q => ∃ p v, x = .ref p ∧ DGet H p y (some v) ∧ Q v H
/-- a subscript of an object of a built-in type, by its getItem -/
theorem sub_by {prog : Program} {w : World} {A : Around} {E : Value → Shared → Prop} {s : Shared} {value slice : Expr} {o i : Value} {T id : String} {R : Value → Shared → Prop} (tO : s.TypeIs o T)
    (gO : typeLookup (.type T) "__getitem__" = pure (some (.builtin id))) (g : wpAny (model prog w) A (getItem o i) R E s) (ps : subscripted slice false o i = operate [o, i] (getItem o i)) :
    wpAny (model prog w) A (subscriptTail value slice o i) R E s := by
  have last : wpAny (model prog w) A (subscripted slice false o i) (fun z s₁ => wpAny (model prog w) A (do letTemporaryGo value o z; pure z) R E s₁) E s := by
    rw [ps]
    exact wpAny_operating (thn g fun z s₁ q => wpAny_bind (wpAny_letTemporaryGo (wpAny_pure q)))
  unfold subscriptTail
  refine wpAny_bind ?_
  have gip := getitemInPython_of_ne tO.not_modules
  rw [gip]
  refine wpAny_bind (wpAny_specialOf tO gO ?_)
  first
    | exact wpAny_bind last
    | exact wpAny_pure (wpAny_bind last)
    | exact wpAny_bind (wpAny_pure (wpAny_bind last))
theorem ix_dict {X : Cx} (hu : X.A.units + 1 < cLine) : IxR X rIxDict := by
  intro value slice pins s σ H x y v u Q I rx ry h hop
  obtain ⟨p, z, rfl, g, q⟩ := h
  cases rx
  exact sub_by (dict_typeIs I g) PySem.F.slot_dict_getitem.lookup (d_getItem hu I g ry fun w' s' I' r' => ⟨z, H, I', r', q⟩) hop
theorem ix_A {X : Cx} (hu : X.A.units + 1 < cLine) : IxR X (fun x y H Q => rIx X.K x y H Q ∨ rIxDict x y H Q) := ix_seq.or (ix_dict hu)
def rIxA (K : PySem.W.Frag) : R2 := fun x y H Q => rIx K x y H Q ∨ rIxDict x y H Q
theorem IsDs.atI {H : Hp} {A : Ax} {vs : List V} {ds : List D} {i : Int} {d : D} (h : IsDs H A vs ds) (e : L2.atI ds i = some d) : ∃ v, L2.atI vs i = some v ∧ IsD H A v d := by
  unfold L2.atI at e ⊢
  rw [h.length]
  cases e1 : ixN ds.length i with
  | none => rw [e1] at e; cases e
  | some j =>
    rw [e1] at e
    exact h.get e
theorem g_ix {K : PySem.W.Frag} : G2 K (rIxA K) gIx := by
  intro H A x y a b d Q hK hA hx hy hg q
  have dict : ∀ {r : Option D}, dAt a b = some r → r = some d → rIxA K x y H Q := fun {r} e e2 => by
    subst e2
    obtain ⟨p, o, rfl, h1, h2⟩ := dAt_get hx hy e
    cases h2 with
    | some h2 => exact .inr ⟨p, _, rfl, h1, q _ H (Gr.refl H) h2⟩
  unfold gIx at hg
  split at hg
  · obtain ⟨p, xs, rfl, e1, s1⟩ := hx.lst
    obtain ⟨v, h1, h2⟩ := s1.atI hg
    exact .inl (.inl ⟨p, xs, _, v, rfl, hy.int, SqL.of e1, h1, q v H (Gr.refl H) h2⟩)
  · obtain ⟨p, xs, rfl, e1, s1⟩ := hx.tup
    obtain ⟨v, h1, h2⟩ := s1.atI hg
    exact .inl (.inr (.inl ⟨p, xs, _, v, rfl, hy.int, SqT.of e1, h1, q v H (Gr.refl H) h2⟩))
  · obtain ⟨p, xs, rfl, e1, s1⟩ := hx.frl
    obtain ⟨v, h1, h2⟩ := s1.atI hg
    exact .inl (.inl ⟨p, xs, _, v, rfl, hy.int, hK ▸ e1, h1, q v H (Gr.refl H) h2⟩)
  · obtain ⟨p, o, xs, rfl, e1, _, _, s1⟩ := hx.ptp
    obtain ⟨v, h1, h2⟩ := s1.atI hg
    exact .inl (.inr (.inl ⟨p, xs, _, v, rfl, hy.int, .inl (.inr ⟨o, e1⟩), h1, q v H (Gr.refl H) h2⟩))
  · cases e : dAt (.dK ‹_›) b with
    | none => rw [e] at hg; cases hg
    | some r => rw [e] at hg; exact dict e hg
  · cases e : dAt (.dT ‹_›) b with
    | none => rw [e] at hg; cases hg
    | some r => rw [e] at hg; exact dict e hg
  · cases hg
end DL
/-! The data layer: built-in functions by values. -/
namespace DL
open PySem PySem.Spec PyProof.Rows L2

/-! ### len, abs, int, tuple, list -/
def gLen : List D → Option D
  | [.lst ds] => some (.int ds.length)
  | [.tup ds] => some (.int ds.length)
  | [.frl ds] => some (.int ds.length)
  | [.ptp ds] => some (.int ds.length)
  | [.str x] => if x.length ≤ mx then some (.int x.length) else none
  | _ => none
theorem g_len {K : PySem.W.Frag} : GL K (fun xs H Q => ∃ x n, xs = [x] ∧ LenV K x H n ∧ Q (.int n) H) gLen := by
  intro H A xs ds d Q hK hA hx hg q
  unfold gLen at hg
  split at hg
  · cases hg
    obtain ⟨v, rfl, h⟩ := hx.one
    obtain ⟨p, ys, rfl, e1, s1⟩ := h.lst
    exact ⟨_, _, rfl, .inl ⟨ys, SqL.of e1, s1.length.symm⟩, q _ H (Gr.refl H) (.int _)⟩
  · cases hg
    obtain ⟨v, rfl, h⟩ := hx.one
    obtain ⟨p, ys, rfl, e1, s1⟩ := h.tup
    exact ⟨_, _, rfl, .inr ⟨ys, SqT.of e1, s1.length.symm⟩, q _ H (Gr.refl H) (.int _)⟩
  · cases hg
    obtain ⟨v, rfl, h⟩ := hx.one
    obtain ⟨p, ys, rfl, e1, s1⟩ := h.frl
    exact ⟨_, _, rfl, .inl ⟨ys, hK ▸ e1, s1.length.symm⟩, q _ H (Gr.refl H) (.int _)⟩
  · cases hg
    obtain ⟨v, rfl, h⟩ := hx.one
    obtain ⟨p, o, ys, rfl, e1, _, _, s1⟩ := h.ptp
    exact ⟨_, _, rfl, .inr ⟨ys, .inl (.inr ⟨o, e1⟩), s1.length.symm⟩, q _ H (Gr.refl H) (.int _)⟩
  · split at hg
    · rename_i hl
      cases hg
      obtain ⟨v, rfl, h⟩ := hx.one
      rw [h.str]
      exact ⟨_, _, rfl, ⟨mx_line hl, rfl⟩, q _ H (Gr.refl H) (.int _)⟩
    · cases hg
  · cases hg
def gAbs : List D → Option D
  | [.int i] => some (.int (if i < 0 then -i else i))
  | _ => none
theorem g_abs {K : PySem.W.Frag} : GL K (fun xs H Q => ∃ i, xs = [.int i] ∧ Q (.int (if i < 0 then -i else i)) H) gAbs := by
  intro H A xs ds d Q hK hA hx hg q
  unfold gAbs at hg
  split at hg
  · cases hg
    obtain ⟨v, rfl, h⟩ := hx.one
    rw [h.int]
    exact ⟨_, rfl, q _ H (Gr.refl H) (.int _)⟩
  · cases hg
def gInt : List D → Option D
  | [.int i] => some (.int i)
  | [.bl k] => some (.int (if k then 1 else 0))
  | _ => none
theorem g_int {K : PySem.W.Frag} : GL K (fun xs H Q => (∃ i, xs = [.int i] ∧ Q (.int i) H) ∨ ∃ k, xs = [.bl k] ∧ Q (.int (if k then 1 else 0)) H) gInt := by
  intro H A xs ds d Q hK hA hx hg q
  unfold gInt at hg
  split at hg
  · cases hg
    obtain ⟨v, rfl, h⟩ := hx.one
    rw [h.int]
    exact .inl ⟨_, rfl, q _ H (Gr.refl H) (.int _)⟩
  · cases hg
    obtain ⟨v, rfl, h⟩ := hx.one
    rw [h.bl]
    exact .inr ⟨_, rfl, q _ H (Gr.refl H) (.int _)⟩
  · cases hg
def seqOf : D → Option (List D)
  | .lst ds => some ds
  | .tup ds => some ds
  | .frl ds => some ds
  | .ptp ds => some ds
  | _ => none
theorem seqOf_is {H : Hp} {A : Ax} {v : V} {d : D} {ds : List D} (h : IsC H A v d) (e : seqOf d = some ds) : ∃ a xs, v = .ref a ∧ (SqL A.K H a xs ∨ SqT A.K H a xs) ∧ IsDs H A xs ds := by
  unfold seqOf at e
  split at e
  · cases e
    obtain ⟨p, ys, rfl, e1, s1⟩ := h.lst
    exact ⟨p, ys, rfl, .inl (SqL.of e1), s1⟩
  · cases e
    obtain ⟨p, ys, rfl, e1, s1⟩ := h.tup
    exact ⟨p, ys, rfl, .inr (SqT.of e1), s1⟩
  · cases e
    obtain ⟨p, ys, rfl, e1, s1⟩ := h.frl
    exact ⟨p, ys, rfl, .inl e1, s1⟩
  · cases e
    obtain ⟨p, o, ys, rfl, e1, _, _, s1⟩ := h.ptp
    exact ⟨p, ys, rfl, .inr (.inl (.inr ⟨o, e1⟩)), s1⟩
  · cases e
def gTuple : List D → Option D
  | [.lst ds] => some (.tup ds)
  | [.frl ds] => some (.tup ds)
  | [.tup ds] => some (.tup ds)
  | _ => none
theorem g_tuple {K : PySem.W.Frag} : GL K (fun xs H Q => ∃ p ys, xs = [.ref p] ∧ ((SqL K H p ys ∧ ∀ l, H l = none → Q (.ref l) (upd H l (.tup ys))) ∨ (SqT K H p ys ∧ Q (.ref p) H))) gTuple := by
  intro H A xs ds d Q hK hA hx hg q
  unfold gTuple at hg
  split at hg
  · cases hg
    obtain ⟨v, rfl, h⟩ := hx.one
    obtain ⟨p, ys, rfl, e1, s1⟩ := h.lst
    exact ⟨p, ys, rfl, .inl ⟨SqL.of e1, fun l hl => q _ _ (Gr.new hl) (new_tup hl hA s1)⟩⟩
  · cases hg
    obtain ⟨v, rfl, h⟩ := hx.one
    obtain ⟨p, ys, rfl, e1, s1⟩ := h.frl
    exact ⟨p, ys, rfl, .inl ⟨hK ▸ e1, fun l hl => q _ _ (Gr.new hl) (new_tup hl hA s1)⟩⟩
  · cases hg
    obtain ⟨v, rfl, h⟩ := hx.one
    have h' := h.tupD
    obtain ⟨p, ys, rfl, e1, s1⟩ := h.tup
    exact ⟨p, ys, rfl, .inr ⟨SqT.of e1, q _ H (Gr.refl H) h'⟩⟩
  · cases hg
def gList : List D → Option D
  | [d] => (seqOf d).map .lst
  | _ => none
theorem g_list {K : PySem.W.Frag} : GLF K (fun xs H Q => ∃ p ys, xs = [.ref p] ∧ (SqL K H p ys ∨ SqT K H p ys) ∧ ∀ l, H l = none → Q (.ref l) (upd H l (.lst ys))) gList := by
  intro H A xs ds d Q hK hA hx hg q
  unfold gList at hg
  split at hg
  · rename_i d0
    cases e : seqOf d0 with
    | none => rw [e] at hg; cases hg
    | some es =>
      rw [e] at hg
      cases hg
      obtain ⟨v, rfl, h⟩ := hx.one
      obtain ⟨p, ys, rfl, h1, s1⟩ := seqOf_is h e
      rw [hK] at h1
      exact ⟨p, ys, rfl, h1, fun l hl => q l _ hl (Gr.new hl) (newAt_lst hl hA s1)⟩
  · cases hg

/-! ### sum, any, all, max, min -/
def gSum : List D → Option D
  | [.lst ds] => (ints? ds).map fun ns => .int ns.sum
  | _ => none
theorem lstInts {K : PySem.W.Frag} {H : Hp} {A : Ax} {v : V} {ns : List Int} (h : IsC H A v (.lst (ns.map D.int))) : ∃ a, v = .ref a ∧ SqL K H a (ns.map V.int) := by
  obtain ⟨p, ys, rfl, e1, s1⟩ := h.lst
  rw [s1.ints] at e1
  exact ⟨p, rfl, SqL.of e1⟩
theorem frlInts {H : Hp} {A : Ax} {v : V} {ns : List Int} (h : IsC H A v (.frl (ns.map D.int))) : ∃ a, v = .ref a ∧ SqL A.K H a (ns.map V.int) := by
  obtain ⟨p, ys, rfl, e1, s1⟩ := h.frl
  rw [s1.ints] at e1
  exact ⟨p, rfl, e1⟩
theorem lstBls {K : PySem.W.Frag} {H : Hp} {A : Ax} {v : V} {ns : List Bool} (h : IsC H A v (.lst (ns.map D.bl))) : ∃ a, v = .ref a ∧ SqL K H a (ns.map V.bl) := by
  obtain ⟨p, ys, rfl, e1, s1⟩ := h.lst
  rw [s1.bls] at e1
  exact ⟨p, rfl, SqL.of e1⟩
theorem g_sum {K : PySem.W.Frag} : GL K (rSum K) gSum := by
  intro H A xs ds d Q hK hA hx hg q
  unfold gSum at hg
  split at hg
  · rename_i es
    cases e : ints? es with
    | none => rw [e] at hg; cases hg
    | some ns =>
      rw [e] at hg
      cases hg
      obtain ⟨v, rfl, h⟩ := hx.one
      rw [of_ints? e] at h
      obtain ⟨p, rfl, h1⟩ := lstInts (K := K) h
      exact ⟨p, ns, rfl, h1, q _ H (Gr.refl H) (.int _)⟩
  · cases hg
def gAny : List D → Option D
  | [.lst ds] => (bls? ds).map fun ns => .bl (ns.any id)
  | _ => none
theorem g_any {K : PySem.W.Frag} : GL K (rAny K) gAny := by
  intro H A xs ds d Q hK hA hx hg q
  unfold gAny at hg
  split at hg
  · rename_i es
    cases e : bls? es with
    | none => rw [e] at hg; cases hg
    | some ns =>
      rw [e] at hg
      cases hg
      obtain ⟨v, rfl, h⟩ := hx.one
      rw [of_bls? e] at h
      obtain ⟨p, rfl, h1⟩ := lstBls (K := K) h
      exact ⟨p, ns, rfl, h1, q _ H (Gr.refl H) (.bl _)⟩
  · cases hg
def gAll : List D → Option D
  | [.lst ds] => (bls? ds).map fun ns => .bl (ns.all id)
  | _ => none
theorem g_all {K : PySem.W.Frag} : GL K (rAll K) gAll := by
  intro H A xs ds d Q hK hA hx hg q
  unfold gAll at hg
  split at hg
  · rename_i es
    cases e : bls? es with
    | none => rw [e] at hg; cases hg
    | some ns =>
      rw [e] at hg
      cases hg
      obtain ⟨v, rfl, h⟩ := hx.one
      rw [of_bls? e] at h
      obtain ⟨p, rfl, h1⟩ := lstBls (K := K) h
      exact ⟨p, ns, rfl, h1, q _ H (Gr.refl H) (.bl _)⟩
  · cases hg
/-- max, min: of two ints, of a list of ints -/
def gMax : List D → Option D
  | [.int i, .int j] => some (.int (if j > i then j else i))
  | [.lst ds] => match ints? ds with
    | some (n :: ns) => some (.int (ns.foldl max n))
    | _ => none
  | _ => none
def gMin : List D → Option D
  | [.int i, .int j] => some (.int (if j < i then j else i))
  | [.lst ds] => match ints? ds with
    | some (n :: ns) => some (.int (ns.foldl min n))
    | _ => none
  | _ => none
def rMaxA (K : PySem.W.Frag) : List V → Hp → VK → Prop := fun xs H Q => (∃ i j, xs = [.int i, .int j] ∧ Q (.int (if j > i then j else i)) H) ∨ rMax K xs H Q
def rMinA (K : PySem.W.Frag) : List V → Hp → VK → Prop := fun xs H Q => (∃ i j, xs = [.int i, .int j] ∧ Q (.int (if j < i then j else i)) H) ∨ rMin K xs H Q
theorem call_maxA {X : Cx} (hc : X.calm = true) : CallR X (.builtin "max") (rMaxA X.K) := (call_max2 hc).or (cr_max hc)
theorem call_minA {X : Cx} (hc : X.calm = true) : CallR X (.builtin "min") (rMinA X.K) := (call_min2 hc).or (cr_min hc)
theorem le_foldl_max : ∀ (ns : List Int) (n : Int), n ≤ ns.foldl max n ∧ ∀ y ∈ ns, y ≤ ns.foldl max n
  | [], n => ⟨Int.le_refl _, fun y h => by cases h⟩
  | m :: ns, n => by
    obtain ⟨h1, h2⟩ := le_foldl_max ns (max n m)
    rw [List.foldl_cons]
    refine ⟨by omega, fun y hy => ?_⟩
    rcases List.mem_cons.mp hy with rfl | hy
    · omega
    · exact h2 y hy
theorem foldl_min_le : ∀ (ns : List Int) (n : Int), ns.foldl min n ≤ n ∧ ∀ y ∈ ns, ns.foldl min n ≤ y
  | [], n => ⟨Int.le_refl _, fun y h => by cases h⟩
  | m :: ns, n => by
    obtain ⟨h1, h2⟩ := foldl_min_le ns (min n m)
    rw [List.foldl_cons]
    refine ⟨by omega, fun y hy => ?_⟩
    rcases List.mem_cons.mp hy with rfl | hy
    · omega
    · exact h2 y hy
theorem foldl_max_mem : ∀ (ns : List Int) (n : Int), ns.foldl max n ∈ n :: ns
  | [], n => List.mem_cons_self
  | m :: ns, n => by
    rw [List.foldl_cons]
    rcases List.mem_cons.mp (foldl_max_mem ns (max n m)) with h | h
    · rw [h]
      by_cases hh : n ≤ m
      · rw [Int.max_eq_right hh]; exact List.mem_cons_of_mem _ List.mem_cons_self
      · rw [Int.max_eq_left (by omega)]; exact List.mem_cons_self
    · exact List.mem_cons_of_mem _ (List.mem_cons_of_mem _ h)
theorem foldl_min_mem : ∀ (ns : List Int) (n : Int), ns.foldl min n ∈ n :: ns
  | [], n => List.mem_cons_self
  | m :: ns, n => by
    rw [List.foldl_cons]
    rcases List.mem_cons.mp (foldl_min_mem ns (min n m)) with h | h
    · rw [h]
      by_cases hh : n ≤ m
      · rw [Int.min_eq_left hh]; exact List.mem_cons_self
      · rw [Int.min_eq_right (by omega)]; exact List.mem_cons_of_mem _ List.mem_cons_self
    · exact List.mem_cons_of_mem _ (List.mem_cons_of_mem _ h)
theorem g_max {K : PySem.W.Frag} : GL K (rMaxA K) gMax := by
  intro H A xs ds d Q hK hA hx hg q
  unfold gMax at hg
  split at hg
  · cases hg
    obtain ⟨v, u, rfl, h1, h2⟩ := hx.two
    rw [h1.int, h2.int]
    exact .inl ⟨_, _, rfl, q _ H (Gr.refl H) (.int _)⟩
  · rename_i es
    split at hg
    · rename_i n ns e
      cases hg
      obtain ⟨v, rfl, h⟩ := hx.one
      rw [of_ints? e] at h
      obtain ⟨p, rfl, h1⟩ := lstInts (K := K) h
      refine .inr ⟨p, _, rfl, h1, Nat.succ_pos _, fun m hm hy => ?_⟩
      obtain ⟨k1, k2⟩ := le_foldl_max ns n
      have em : m = ns.foldl max n := Int.le_antisymm (by
        rcases List.mem_cons.mp hm with e | e
        · rw [e]; exact k1
        · exact k2 m e) (hy _ (foldl_max_mem ns n))
      rw [em]
      exact q _ H (Gr.refl H) (.int _)
    · cases hg
  · cases hg
theorem g_min {K : PySem.W.Frag} : GL K (rMinA K) gMin := by
  intro H A xs ds d Q hK hA hx hg q
  unfold gMin at hg
  split at hg
  · cases hg
    obtain ⟨v, u, rfl, h1, h2⟩ := hx.two
    rw [h1.int, h2.int]
    exact .inl ⟨_, _, rfl, q _ H (Gr.refl H) (.int _)⟩
  · rename_i es
    split at hg
    · rename_i n ns e
      cases hg
      obtain ⟨v, rfl, h⟩ := hx.one
      rw [of_ints? e] at h
      obtain ⟨p, rfl, h1⟩ := lstInts (K := K) h
      refine .inr ⟨p, _, rfl, h1, Nat.succ_pos _, fun m hm hy => ?_⟩
      obtain ⟨k1, k2⟩ := foldl_min_le ns n
      have em : m = ns.foldl min n := Int.le_antisymm (hy _ (foldl_min_mem ns n)) (by
        rcases List.mem_cons.mp hm with e | e
        · rw [e]; exact k1
        · exact k2 m e)
      rw [em]
      exact q _ H (Gr.refl H) (.int _)
    · cases hg
  · cases hg


/-! ### sorting by insertion -/
def insL {α : Type} (le : α → α → Bool) (x : α) : List α → List α
  | [] => [x]
  | y :: ys => if le x y then x :: y :: ys else y :: insL le x ys
def sortL {α : Type} (le : α → α → Bool) : List α → List α
  | [] => []
  | x :: xs => insL le x (sortL le xs)
theorem insL_perm {α : Type} (le : α → α → Bool) (x : α) : ∀ l : List α, (insL le x l).Perm (x :: l)
  | [] => .refl _
  | y :: ys => by
    unfold insL
    split
    · exact .refl _
    · exact ((insL_perm le x ys).cons y).trans (.swap x y ys)
theorem sortL_perm {α : Type} (le : α → α → Bool) : ∀ l : List α, (sortL le l).Perm l
  | [] => .refl _
  | x :: xs => (insL_perm le x _).trans ((sortL_perm le xs).cons x)
theorem insL_sorted {α : Type} {le : α → α → Bool} (tot : ∀ a b, le a b = true ∨ le b a = true) (tr : ∀ a b c, le a b = true → le b c = true → le a c = true) (x : α) :
    ∀ l : List α, l.Pairwise (fun a b => le a b = true) → (insL le x l).Pairwise fun a b => le a b = true
  | [], _ => List.pairwise_singleton _ _
  | y :: ys, h => by
    obtain ⟨h1, h2⟩ := List.pairwise_cons.mp h
    unfold insL
    split
    · rename_i e
      refine List.pairwise_cons.mpr ⟨fun z hz => ?_, h⟩
      rcases List.mem_cons.mp hz with rfl | hz
      · exact e
      · exact tr _ _ _ e (h1 z hz)
    · rename_i e
      refine List.pairwise_cons.mpr ⟨fun z hz => ?_, insL_sorted tot tr x ys h2⟩
      rcases List.mem_cons.mp ((insL_perm le x ys).mem_iff.mp hz) with rfl | hz
      · exact (tot _ _).resolve_left e
      · exact h1 z hz
theorem sortL_sorted {α : Type} {le : α → α → Bool} (tot : ∀ a b, le a b = true ∨ le b a = true) (tr : ∀ a b c, le a b = true → le b c = true → le a c = true) :
    ∀ l : List α, (sortL le l).Pairwise fun a b => le a b = true
  | [] => .nil
  | x :: xs => insL_sorted tot tr x _ (sortL_sorted tot tr xs)

/-! ### sorted: ints; tuples of ints, all of one length -/
def sortI (ns : List Int) : List Int := sortL (fun a b => decide (a ≤ b)) ns
theorem sortI_perm (ns : List Int) : (sortI ns).Perm ns := sortL_perm _ ns
theorem sortI_sorted (ns : List Int) : (sortI ns).Pairwise (· ≤ ·) := by
  refine List.Pairwise.imp (fun h => of_decide_eq_true h) (sortL_sorted (le := fun a b : Int => decide (a ≤ b)) (fun a b => ?_) (fun a b c h1 h2 => ?_) ns)
  · rw [decide_eq_true_eq, decide_eq_true_eq]
    exact Int.le_total a b
  · exact decide_eq_true (Int.le_trans (of_decide_eq_true h1) (of_decide_eq_true h2))
theorem sortI_is {ns ms : List Int} (p : ms.Perm ns) (s : ms.Pairwise (· ≤ ·)) : ms = sortI ns :=
  List.Perm.eq_of_pairwise (le := fun a b => a ≤ b) (fun a b _ _ h1 h2 => Int.le_antisymm h1 h2) s (sortI_sorted ns) (p.trans (sortI_perm ns).symm)
/-- tuples of ints -/
def tupsI? : List D → Option (List (List Int))
  | [] => some []
  | .tup ds :: r => match ints? ds, tupsI? r with
    | some ns, some rs => some (ns :: rs)
    | _, _ => none
  | _ :: _ => none
def tupI (ns : List Int) : D := .tup (ns.map D.int)
theorem tupsI?_map : ∀ nss : List (List Int), tupsI? (nss.map tupI) = some nss
  | [] => rfl
  | ns :: nss => by
    rw [List.map_cons, tupI, tupsI?, ints?_map, tupsI?_map nss]
theorem of_tupsI? : ∀ {ds : List D} {nss : List (List Int)}, tupsI? ds = some nss → ds = nss.map tupI
  | [], _, h => by cases h; rfl
  | .tup ds :: r, nss, h => by
    rw [tupsI?] at h
    cases e1 : ints? ds with
    | none => rw [e1] at h; cases h
    | some ns =>
      cases e2 : tupsI? r with
      | none => rw [e1, e2] at h; cases h
      | some rs =>
        rw [e1, e2] at h
        cases h
        rw [of_ints? e1, of_tupsI? e2]
        rfl
  | .non :: _, _, h => by cases h
  | .bl _ :: _, _, h => by cases h
  | .str _ :: _, _, h => by cases h
  | .int _ :: _, _, h => by cases h
  | .lst _ :: _, _, h => by cases h
  | .frl _ :: _, _, h => by cases h
  | .dK _ :: _, _, h => by cases h
  | .dT _ :: _, _, h => by cases h
abbrev codeT (ns : List Int) : Int := TS.code 64 ns
def sortT (nss : List (List Int)) : List (List Int) := sortL (fun a b => decide (codeT a ≤ codeT b)) nss
theorem sortT_perm (ns : List (List Int)) : (sortT ns).Perm ns := sortL_perm _ ns
theorem sortT_sorted (ns : List (List Int)) : (sortT ns).Pairwise fun a b => codeT a ≤ codeT b := by
  refine List.Pairwise.imp (fun h => of_decide_eq_true h) (sortL_sorted (le := fun a b : List Int => decide (codeT a ≤ codeT b)) (fun a b => ?_) (fun a b c h1 h2 => ?_) ns)
  · rw [decide_eq_true_eq, decide_eq_true_eq]
    exact Int.le_total _ _
  · exact decide_eq_true (Int.le_trans (of_decide_eq_true h1) (of_decide_eq_true h2))
/-- d ints each, from 0 to 63; fewer than 64 of them -/
def fitT (d : Nat) (nss : List (List Int)) : Bool := decide (nss.length < 64) && nss.all fun ns => decide (ns.length = d) && ns.all fun i => decide (0 ≤ i) && decide (i < 64)
theorem fitT_len {d : Nat} {nss : List (List Int)} (h : fitT d nss = true) : nss.length < 64 := by
  unfold fitT at h
  rw [Bool.and_eq_true, decide_eq_true_eq] at h
  exact h.1
theorem fitT_mem {d : Nat} {nss : List (List Int)} (h : fitT d nss = true) {ns : List Int} (m : ns ∈ nss) : ns.length = d ∧ TS.Bd 64 ns := by
  unfold fitT at h
  rw [Bool.and_eq_true, List.all_eq_true] at h
  have h2 := h.2 ns m
  rw [Bool.and_eq_true, decide_eq_true_eq, List.all_eq_true] at h2
  refine ⟨h2.1, fun i hi => ?_⟩
  have h3 := h2.2 i hi
  rw [Bool.and_eq_true, decide_eq_true_eq, decide_eq_true_eq] at h3
  exact h3
theorem code_inj : ∀ {a b : List Int}, a.length = b.length → TS.Bd 64 a → TS.Bd 64 b → codeT a = codeT b → a = b
  | [], [], _, _, _, _ => rfl
  | x :: a, y :: b, hl, ha, hb, h => by
    have hl' : a.length = b.length := by simpa using hl
    rcases Int.lt_trichotomy x y with q | q | q
    · have := TS.code_lt (B := 64) hl' ha.tail hb.tail q
      exact absurd h (Int.ne_of_lt this)
    · subst q
      have : codeT a = codeT b := by
        have h' : x * 64 ^ a.length + TS.code 64 a = x * 64 ^ b.length + TS.code 64 b := h
        rw [hl'] at h'
        exact Int.add_left_cancel h'
      rw [code_inj hl' ha.tail hb.tail this]
    · have := TS.code_lt (B := 64) hl'.symm hb.tail ha.tail q
      exact absurd h.symm (Int.ne_of_lt this)
theorem sortT_is {d : Nat} {ns ms : List (List Int)} (f : fitT d ns = true) (p : ms.Perm ns) (s : ms.Pairwise fun a b => codeT a ≤ codeT b) : ms = sortT ns := by
  refine List.Perm.eq_of_pairwise (le := fun a b => codeT a ≤ codeT b) (fun a b ha hb h1 h2 => ?_) s (sortT_sorted ns) (p.trans (sortT_perm ns).symm)
  obtain ⟨l1, b1⟩ := fitT_mem f (p.mem_iff.mp ha)
  obtain ⟨l2, b2⟩ := fitT_mem f ((sortT_perm ns).mem_iff.mp hb)
  exact code_inj (l1.trans l2.symm) b1 b2 (Int.le_antisymm h1 h2)
theorem IsDs.perm {H : Hp} {A : Ax} {ys xs : List V} (p : ys.Perm xs) : ∀ {ds : List D}, IsDs H A xs ds → ∃ es, es.Perm ds ∧ IsDs H A ys es := by
  induction p with
  | nil => intro ds h; exact ⟨ds, .refl _, h⟩
  | cons x p ih =>
    intro ds h
    cases h with
    | cons h t =>
      obtain ⟨es, pe, he⟩ := ih t
      exact ⟨_ :: es, pe.cons _, .cons h he⟩
  | swap x y l =>
    intro ds h
    cases h with
    | cons h t =>
      cases t with
      | cons h2 t => exact ⟨_ :: _ :: _, .swap _ _ _, .cons h2 (.cons h t)⟩
  | trans p q ih1 ih2 =>
    intro ds h
    obtain ⟨es, pe, he⟩ := ih2 h
    obtain ⟨fs, pf, hf⟩ := ih1 he
    exact ⟨fs, pf.trans pe, hf⟩
theorem perm_map_inv {α β : Type} (f : α → β) {l : List β} : ∀ {m : List α}, l.Perm (m.map f) → ∃ k : List α, k.Perm m ∧ l = k.map f := by
  intro m p
  generalize e : m.map f = r at p
  induction p generalizing m with
  | nil =>
    cases m with
    | nil => exact ⟨[], .refl _, rfl⟩
    | cons a m => cases e
  | cons x p ih =>
    cases m with
    | nil => cases e
    | cons a m =>
      rw [List.map_cons] at e
      injection e with e1 e2
      subst e1
      obtain ⟨k, pk, ek⟩ := ih e2
      exact ⟨a :: k, pk.cons a, by rw [ek]; rfl⟩
  | swap x y l =>
    cases m with
    | nil => cases e
    | cons a m =>
      cases m with
      | nil => cases e
      | cons b m =>
        rw [List.map_cons, List.map_cons] at e
        injection e with e1 e2
        injection e2 with e2 e3
        subst e1 e2 e3
        exact ⟨b :: a :: m, .swap _ _ _, rfl⟩
  | trans p q ih1 ih2 =>
    obtain ⟨k, pk, ek⟩ := ih2 e
    subst ek
    obtain ⟨k2, pk2, ek2⟩ := ih1 rfl
    exact ⟨k2, pk2.trans pk, ek2⟩
theorem short_perm {α : Type} {l m : List α} (h : m.length ≤ 1) (p : l.Perm m) : l = m := by
  match m, p, h with
  | [], p, _ => exact List.Perm.eq_nil p
  | [v], p, _ => exact List.perm_singleton.mp p
/-- a new list of at most one item -/
theorem cr_sorted1 {X : Cx} : CallR X (.builtin "sorted") (fun vs H Q => ∃ (a : Addr) (xs : List V), vs = [V.ref a] ∧ SqL X.K H a xs ∧ xs.length ≤ 1 ∧ ∀ p : Addr, H p = none → Q (.ref p) (upd H p (.lst xs))) := by
  intro pins s σ H vs us Q I r h
  obtain ⟨a, xs, rfl, hs, h1, q⟩ := h
  obtain ⟨its, rv, hl, hz⟩ := I.list hs
  have e1 : its.length ≤ 1 := by rw [← rv.length]; exact h1
  rw [Vals.ref1 r]
  refine SrtO.sorted_ord SrtO.swo_int hl.isList (by rw [← rv.length]; exact hz) (fun h2 => absurd h2 (Nat.not_le.mpr (Nat.lt_succ_of_le e1))) fun out _ h3 => ?_
  have eo : out = its := short_perm e1 h3.perm
  subst eo
  obtain ⟨ep, he'⟩ := PyProof.Rows.sortedAll_at s.heap out out.toArray
  exact ⟨.ref _, upd H (s.heap.objs.size + 1) (.lst xs), I.laid (t' := s.toks) (fun _ _ => PyProof.Rows.sortedAll_old) (Nat.le_succ _) ⟨hz, out, ep, rv, he'⟩, rfl, q _ (I.hok.fresh (Nat.le_succ _))⟩
def rSortedA (K : PySem.W.Frag) : List V → Hp → VK → Prop := fun vs H Q => rSortedI K vs H Q ∨ ((∃ (a : Addr) (xs : List V), vs = [V.ref a] ∧ SqL K H a xs ∧ xs.length ≤ 1 ∧ ∀ p : Addr, H p = none → Q (.ref p) (upd H p (.lst xs))) ∨ ∃ d, 1 ≤ d ∧ rSortU K d 64 vs H Q)
theorem call_sortedA {X : Cx} : CallR X (.builtin "sorted") (rSortedA X.K) := by
  intro pins s σ H vs us Q I r h
  rcases h with h | h | ⟨d, hd, h⟩
  · exact cr_sortedI pins s σ H vs us Q I r h
  · exact cr_sorted1 pins s σ H vs us Q I r h
  · exact cr_sortT hd pins s σ H vs us Q I r h
def gSorted : List D → Option D
  | [.lst ds] => match ints? ds with
    | some ns => some (.lst ((sortI ns).map D.int))
    | none => if ds.length ≤ 1 then some (.lst ds) else match tupsI? ds with
      | some nss => if 1 ≤ (nss.head?.getD []).length ∧ fitT (nss.head?.getD []).length nss = true then some (.lst ((sortT nss).map tupI)) else none
      | none => none
  | _ => none
theorem isD_tupI {K : PySem.W.Frag} {H : Hp} {A : Ax} {x : V} {ns : List Int} (h : IsD H A x (tupI ns)) : TupI K H x ns := by
  obtain ⟨p, xs, rfl, e, s⟩ := IsC.tup (.d h)
  rw [s.ints] at e
  exact ⟨p, rfl, SqT.of e⟩
theorem g_sorted {K : PySem.W.Frag} : GLF K (rSortedA K) gSorted := by
  intro H A xs ds d Q hK hA hx hg q
  unfold gSorted at hg
  split at hg
  · rename_i es
    obtain ⟨v, rfl, h⟩ := hx.one
    split at hg
    · rename_i ns e
      cases hg
      rw [of_ints? e] at h
      obtain ⟨p, rfl, h1⟩ := lstInts (K := K) h
      refine .inl ⟨p, ns, rfl, h1, fun ms a pm so ha => ?_⟩
      rw [sortI_is pm so]
      exact q a _ ha (Gr.new ha) (newAt_lst ha hA (isDs_ints _))
    · obtain ⟨p, ys, rfl, e1, s1⟩ := h.lst
      split at hg
      · rename_i hl
        cases hg
        exact .inr (.inl ⟨p, ys, rfl, SqL.of e1, by rw [s1.length]; exact hl, fun a ha => q a _ ha (Gr.new ha) (newAt_lst ha hA s1)⟩)
      · split at hg
        · rename_i nss e
          split at hg
          · rename_i hf
            cases hg
            obtain ⟨hd, hf⟩ := hf
            rw [of_tupsI? e] at s1
            have hl : ys.length = nss.length := by rw [s1.length, List.length_map]
            refine .inr (.inr ⟨_, hd, p, ys, rfl, SqL.of e1, by rw [hl]; exact fitT_len hf, fun x hm => ?_, fun zs a pm so ha => ?_⟩)
            · obtain ⟨i, hi, ex⟩ := List.getElem_of_mem hm
              obtain ⟨v', e2, i2⟩ := s1.get (i := i) (d := tupI (nss[i]'(by omega))) (by rw [List.getElem?_map, List.getElem?_eq_getElem (by omega)]; rfl)
              have ev : v' = x := by
                rw [List.getElem?_eq_getElem hi, ex] at e2
                exact (Option.some.inj e2).symm
              subst ev
              obtain ⟨l1, b1⟩ := fitT_mem hf (List.getElem_mem (show i < nss.length by omega))
              exact ⟨_, isD_tupI i2, l1, b1⟩
            · obtain ⟨fs, pf, hfs⟩ := s1.perm pm
              obtain ⟨ms, pms, rfl⟩ := perm_map_inv tupI pf
              have sm : ms.Pairwise fun a b => codeT a ≤ codeT b := by
                rw [List.pairwise_iff_getElem] at so ⊢
                intro i j hi hj hij
                have hlz : zs.length = ms.length := by rw [hfs.length, List.length_map]
                have g : ∀ k (hk : k < ms.length), TupI K H (zs[k]'(by omega)) (ms[k]) := fun k hk => by
                  obtain ⟨v', e2, i2⟩ := hfs.get (i := k) (d := tupI ms[k]) (by rw [List.getElem?_map, List.getElem?_eq_getElem hk]; rfl)
                  have ev : v' = zs[k]'(by omega) := by
                    rw [List.getElem?_eq_getElem (by omega)] at e2
                    exact (Option.some.inj e2).symm
                  rw [← ev]
                  exact isD_tupI i2
                exact so i j (by omega) (by omega) hij _ _ (g i hi) (g j hj)
              rw [sortT_is hf pms sm] at hfs
              exact q a _ ha (Gr.new ha) (newAt_lst ha hA hfs)
          · cases hg
        · cases hg
  · cases hg
end DL
/-! The data layer: displays, slices, isinstance, repr, what is walked. -/
namespace DL
open PySem PySem.Spec PyProof.Rows L2

/-! ### displays -/
def faNil : FA := fun env => some ([], env)
def faCons (f : FE) (r : FA) : FA := fun env => match f env with
  | none => none
  | some (d, e1) => match r e1 with
    | none => none
    | some (ds, e2) => some (d :: ds, e2)
def faStar (f : FL) (r : FA) : FA := fun env => match f env with
  | none => none
  | some (l, e1) => match (res e1 l).bind seqOf with
    | none => none
    | some xs => match r e1 with
      | none => none
      | some (ds, e2) => some (xs ++ ds, e2)
def fTup (f : FA) : FE := fun env => match f env with
  | none => none
  | some (ds, e) => if ds.length ≤ mx then some (.tup ds, e) else none
def fLst (f : FA) : FE := fun env => match f env with
  | none => none
  | some (ds, e) => if ds.length ≤ mx then some (.lst ds, e) else none
section
variable {X : Cx} {e : Expr} {es : List Expr} {pos p : Pos}
theorem da_nil : PA X [] (tA X.K faNil) := by
  refine PA.weak pa_nil ?_
  rintro σ H Q ⟨F, env, as, l, env', hK, E, ef, q⟩
  cases ef
  exact q [] H as E (Step.refl _ _) .nil
theorem da_cons {f : FE} {r : FA} (h : PE X e (tD X.K f)) (t : PA X es (tA X.K r)) (hs : starEach (e :: es) X.env = (false, eval e X.env) :: starEach es X.env := by rfl) : PA X (e :: es) (tA X.K (faCons f r)) := by
  refine PA.weak (pa_cons h t hs) ?_
  rintro σ H Q ⟨F, env, as, l, env', hK, E, ef, q⟩
  unfold faCons at ef
  cases r1 : f env with
  | none => rw [r1] at ef; cases ef
  | some p =>
    obtain ⟨l1, e1⟩ := p
    simp only [r1] at ef
    cases r2 : r e1 with
    | none => rw [r2] at ef; cases ef
    | some p2 =>
      obtain ⟨ls, e2⟩ := p2
      simp only [r2] at ef
      cases ef
      exact ⟨F, env, as, l1, e1, hK, E, r1, fun v H1 as1 E1 S1 i1 => ⟨F, e1, as1, ls, _, hK, E1, r2, fun vs H2 as2 E2 S2 i2 => q _ _ as2 E2 (S1.trans S2) (.cons (i1.st S2) i2)⟩⟩
theorem da_star {f : FL} {r : FA} (h : PE X e (tL X.K f)) (t : PA X es (tA X.K r)) (hs : starEach (.Starred e p :: es) X.env = (true, eval e X.env) :: starEach es X.env := by rfl) : PA X (.Starred e p :: es) (tA X.K (faStar f r)) := by
  refine PA.weak (StX.pa_star h t hs) ?_
  rintro σ H Q ⟨F, env, as, l, env', hK, E, ef, q⟩
  unfold faStar at ef
  cases r1 : f env with
  | none => rw [r1] at ef; cases ef
  | some p =>
    obtain ⟨l1, e1⟩ := p
    simp only [r1] at ef
    cases r3 : res e1 l1 with
    | none => simp only [r3, Option.bind_none] at ef; cases ef
    | some d =>
      cases r4 : seqOf d with
      | none => simp only [r3, Option.bind_some, r4] at ef; cases ef
      | some xs =>
        simp only [r3, Option.bind_some, r4] at ef
        cases r2 : r e1 with
        | none => rw [r2] at ef; cases ef
        | some p2 =>
          obtain ⟨ls, e2⟩ := p2
          simp only [r2] at ef
          cases ef
          refine ⟨F, env, as, l1, e1, hK, E, r1, fun v H1 as1 E1 S1 i1 => ?_⟩
          obtain ⟨a, ys, rfl, h1, s1⟩ := seqOf_is (i1.c E1 r3) r4
          have hK' : (Av as1 F.B).K = X.K := hK
          rw [hK'] at h1
          exact ⟨a, ys, rfl, h1.symm, F, e1, as1, ls, _, hK, E1, r2, fun vs H2 as2 E2 S2 i2 => q _ _ as2 E2 (S1.trans S2) ((s1.st S2).append i2)⟩
theorem de_tup {f : FA} {k : Nat} (h : PA X es (tA X.K f)) : PE X (.Tuple es k pos) (tD X.K (fTup f)) := by
  refine PE.weak (pe_tup h) ?_
  rintro σ H Q ⟨F, env, as, d, env', hK, E, ef, q⟩
  unfold fTup at ef
  cases r1 : f env with
  | none => rw [r1] at ef; cases ef
  | some p =>
    obtain ⟨ds, e1⟩ := p
    simp only [r1] at ef
    split at ef
    · rename_i hl
      cases ef
      exact ⟨F, env, as, ds, _, hK, E, r1, fun vs H1 as1 E1 S1 i1 => ⟨by rw [i1.length]; exact mx_line hl, fun p hp => q _ _ as1 (E1.gr (Gr.new hp)) (S1.trans ((Gr.new hp).step _)) (new_tup hp E1.av i1)⟩⟩
    · cases ef
theorem df_lst {f : FA} (h : PA X es (tA X.K f)) : PE X (.List es pos) (tF X.K (fLst f)) := by
  refine PE.weak (pe_lst h) ?_
  rintro σ H Q ⟨F, env, as, d, env', hK, E, ef, q⟩
  unfold fLst at ef
  cases r1 : f env with
  | none => rw [r1] at ef; cases ef
  | some p =>
    obtain ⟨ds, e1⟩ := p
    simp only [r1] at ef
    split at ef
    · rename_i hl
      cases ef
      refine ⟨F, env, as, ds, _, hK, E, r1, fun vs H1 as1 E1 S1 i1 => ⟨by rw [i1.length]; exact mx_line hl, fun p hp => q _ _ as1 (E1.more (Gr.new hp) hp ⟨_, upd_same, rfl⟩ E1.trk) (S1.trans ((Gr.new hp).step _)) ?_ (newAt_lst hp E1.av i1)⟩⟩
      cases hz0 : H p with
      | none => rfl
      | some o => exact absurd hp (S1.dom p (some_ne hz0))
    · cases ef
theorem df_newT : PE X (.Dict [] [] pos) (tF X.K (fC (.dT []))) := by
  refine PE.weak pe_dnewT ?_
  rintro σ H Q ⟨F, env, as, d, env', hK, E, ef, q⟩
  cases ef
  exact fun p hp => q p _ as (E.more (Gr.new hp) hp ⟨_, upd_same, rfl⟩ E.trk) ((Gr.new hp).step _) hp ⟨fun z => E.av p z hp, _, upd_same, .nil⟩
theorem df_newK : PE X (.Dict [] [] pos) (tF X.K (fC (.dK []))) := by
  refine PE.weak pe_dnewK ?_
  rintro σ H Q ⟨F, env, as, d, env', hK, E, ef, q⟩
  cases ef
  exact fun p hp => q p _ as (E.more (Gr.new hp) hp ⟨_, upd_same, rfl⟩ E.trk) ((Gr.new hp).step _) hp ⟨fun z => E.av p z hp, _, upd_same, .nil⟩
end

/-! ### slices -/
abbrev FO := En → Option (Option Int × En)
def tO (K : PySem.W.Frag) (f : FO) : TO := fun σ H Q => ∃ F env as o env', F.B.K = K ∧ EnvOk F H σ env as ∧ f env = some (o, env') ∧ ∀ H' as', EnvOk F H' σ env' as' → Step as H as' H' → Q o H'
def foNone : FO := fun env => some (none, env)
def foSome (f : FE) : FO := fun env => match f env with
  | some (.int i, e) => some (some i, e)
  | _ => none
theorem PO.weak {X : Cx} {e : Option Expr} {t t' : TO} (h : PO X e t) (w : ∀ σ H Q, t' σ H Q → t σ H Q) : PO X e t' := by
  refine ⟨fun pins s σ H Q I q => ?_⟩
  exact h.run pins s σ H Q I (w σ H Q q)
def cutD {α : Type} (xs : List α) (lo hi : Option Int) : List α := (xs.drop (HT.sIx xs.length 0 lo)).take (HT.sIx xs.length xs.length hi - HT.sIx xs.length 0 lo)
theorem IsDs.cut {H : Hp} {A : Ax} {vs : List V} {ds : List D} (h : IsDs H A vs ds) (lo hi : Option Int) : IsDs H A (cutV vs lo hi) (cutD ds lo hi) := by
  unfold cutV cutD
  rw [h.length]
  exact (h.drop _).take _
def gCut (d : D) (lo hi : Option Int) : Option D := match d with
  | .lst ds => some (.lst (cutD ds lo hi))
  | .frl ds => some (.lst (cutD ds lo hi))
  | .tup ds => some (.tup (cutD ds lo hi))
  | _ => none
def fSl (fa : FL) (fl fh : FO) : FE := fun env => match fa env with
  | none => none
  | some (a, e1) => match fl e1 with
    | none => none
    | some (lo, e2) => match fh e2 with
      | none => none
      | some (hi, e3) => match res e3 a with
        | none => none
        | some d => (gCut d lo hi).map fun r => (r, e3)
def rSlAll (K : PySem.W.Frag) : V → Option Int → Option Int → Hp → VK → Prop := fun x lo hi H Q => rSlL K x lo hi H Q ∨ rSlA K x lo hi H Q
theorem sl_all {X : Cx} : SlR X (rSlAll X.K) := sl_list.or sl_tupA
section
variable {X : Cx} {e : Expr} {lo hi : Option Expr} {pos p2 : Pos}
theorem dpo_none : PO X none (tO X.K foNone) := by
  refine PO.weak po_none ?_
  rintro σ H Q ⟨F, env, as, o, env', hK, E, ef, q⟩
  cases ef
  exact q H as E (Step.refl _ _)
theorem dpo_some {f : FE} (h : PE X e (tD X.K f)) : PO X (some e) (tO X.K (foSome f)) := by
  refine PO.weak (po_some h) ?_
  rintro σ H Q ⟨F, env, as, o, env', hK, E, ef, q⟩
  unfold foSome at ef
  cases r : f env with
  | none => rw [r] at ef; cases ef
  | some p =>
    obtain ⟨d, e1⟩ := p
    rw [r] at ef
    cases d with
    | int i =>
      cases ef
      refine ⟨F, env, as, .int i, _, hK, E, r, fun v H1 as1 E1 S1 i1 => ?_⟩
      cases i1
      exact ⟨i, rfl, q H1 as1 E1 S1⟩
    | _ => cases ef
theorem de_slice {fa : FL} {fl fh : FO} (he : PE X e (tL X.K fa)) (hl : PO X lo (tO X.K fl)) (hh : PO X hi (tO X.K fh)) : PE X (.Subscript e (.Slice lo hi none p2) pos) (tD X.K (fSl fa fl fh)) := by
  refine PE.weak (pe_slice sl_all he hl hh) ?_
  rintro σ H Q ⟨F, env, as, d, env', hK, E, ef, q⟩
  unfold fSl at ef
  cases r1 : fa env with
  | none => rw [r1] at ef; cases ef
  | some p =>
    obtain ⟨a, e1⟩ := p
    simp only [r1] at ef
    cases r2 : fl e1 with
    | none => rw [r2] at ef; cases ef
    | some p =>
      obtain ⟨l, e2⟩ := p
      simp only [r2] at ef
      cases r3 : fh e2 with
      | none => rw [r3] at ef; cases ef
      | some p =>
        obtain ⟨u, e3⟩ := p
        simp only [r3] at ef
        cases r4 : res e3 a with
        | none => simp only [r4] at ef; cases ef
        | some d0 =>
          simp only [r4] at ef
          cases r5 : gCut d0 l u with
          | none => rw [r5] at ef; cases ef
          | some z =>
            rw [r5] at ef
            cases ef
            refine ⟨F, env, as, a, e1, hK, E, r1, fun v H1 as1 E1 S1 i1 => ⟨F, e1, as1, l, e2, hK, E1, r2, fun H2 as2 E2 S2 => ⟨F, e2, as2, u, _, hK, E2, r3, fun H3 as3 E3 S3 => ?_⟩⟩⟩
            have S := (S1.trans S2).trans S3
            have c := ((i1.st S2).st S3).c E3 r4
            have hK' : (Av as3 F.B).K = X.K := hK
            unfold gCut at r5
            split at r5
            · cases r5
              obtain ⟨a, ys, rfl, h1, s1⟩ := c.lst
              exact .inl ⟨a, ys, rfl, SqL.of h1, fun p hp => q _ _ as3 (E3.gr (Gr.new hp)) (S.trans ((Gr.new hp).step _)) (new_lst hp E3.av (s1.cut l u))⟩
            · cases r5
              obtain ⟨a, ys, rfl, h1, s1⟩ := c.frl
              exact .inl ⟨a, ys, rfl, hK' ▸ h1, fun p hp => q _ _ as3 (E3.gr (Gr.new hp)) (S.trans ((Gr.new hp).step _)) (new_lst hp E3.av (s1.cut l u))⟩
            · cases r5
              have c' := c.tupD
              obtain ⟨a, ys, rfl, h1, s1⟩ := c.tup
              refine .inr ⟨a, ys, rfl, SqT.of h1, fun z => ?_, fun _ p hp => q _ _ as3 (E3.gr (Gr.new hp)) (S.trans ((Gr.new hp).step _)) (new_tup hp E3.av (s1.cut l u))⟩
              rename_i ds
              have e9 : cutD ds l u = ds := by
                unfold cutD
                rw [← s1.length, z.1, z.2, List.drop_zero, Nat.sub_zero, s1.length, List.take_length]
              rw [e9] at q
              exact q _ H3 as3 E3 S c'
            · cases r5
end

/-! ### isinstance -/
def tnOf : D → String
  | .non => "NoneType"
  | .bl _ => "bool"
  | .int _ => "int"
  | .str _ => "str"
  | .tup _ => "tuple"
  | .ptp _ => "tuple"
  | .lst _ => "list"
  | .frl _ => "list"
  | .dK _ => "dict"
  | .dT _ => "dict"
def isiB (a T : String) : Bool := a == T || (a == "bool" && T == "int")
theorem kit_all : ∀ a ∈ ["NoneType", "bool", "int", "str", "tuple", "list", "dict"], ∀ T ∈ ["int", "bool", "str", "tuple", "list"], kitB a T = some (isiB a T) := by decide +kernel

theorem tnOf_mem (d : D) : tnOf d ∈ ["NoneType", "bool", "int", "str", "tuple", "list", "dict"] := by
  cases d <;> simp [tnOf]
theorem tyX_of {H : Hp} {A : Ax} {v : V} {d : D} (h : IsC H A v d) (nt : ∀ ds, d ≠ .dT ds) : TyX A.K H v (.type (tnOf d)) := by
  cases d with
  | non => rw [h.non]; exact .base .non
  | bl b => rw [h.bl]; exact .base (.bl b)
  | int i => rw [h.int]; exact .base (.int i)
  | str x => rw [h.str]; exact .base (.str x)
  | tup ds => obtain ⟨a, ys, rfl, h1, _⟩ := h.tup; exact .base (.tup h1)
  | ptp ds => obtain ⟨a, o, ys, rfl, h1, _⟩ := h.ptp; exact .fTuple h1
  | lst ds => obtain ⟨a, ys, rfl, h1, _⟩ := h.lst; exact .base (.lst h1)
  | frl ds =>
    obtain ⟨a, ys, rfl, h1, _⟩ := h.frl
    rcases h1 with (h1 | ⟨o, h1⟩) | ⟨o, its, n, h1, h2, _⟩
    · exact .base (.lst h1)
    · exact .base (.frz h1)
    · exact .kList h1 h2
  | dK ds =>
    obtain ⟨a, ys, rfl, h1, _⟩ := h.dK
    rcases h1 with h1 | ⟨o, h1⟩
    · exact .base (.dK h1)
    · exact .fDict h1
  | dT ds => exact absurd rfl (nt ds)
def fIsi (T : String) (f : FL) : FE := fun env => match f env with
  | none => none
  | some (l, e) => match res e l with
    | none => none
    | some (.dT _) => none
    | some d => some (.bl (isiB (tnOf d) T), e)
section
variable {X : Cx} {e : Expr} {p q pos : Pos}
theorem de_isi {T : String} {x : Str} {f : FL} (hT : T ∈ ["int", "bool", "str", "tuple", "list"]) (hg : Gl X "isinstance") (hm : X.mg "isinstance" = none) (hg2 : Gl X x) (hm2 : X.mg x = none) (hv : bootBuiltins x = some (.type T)) (ha : PE X e (tL X.K f))
    (hn : x ≠ "__name__" := by decide) (hd : (x == ("__debug__" : Str)) = false := by decide)
    (he : starEach [e, .Name x q] X.env = (false, eval e X.env) :: starEach [.Name x q] X.env := by rfl) (he2 : starEach [.Name x q] X.env = (false, eval (.Name x q) X.env) :: starEach [] X.env := by rfl) (hpl : (backTo pos (starEach [.Name x q] X.env)).any (·.1) = false := by rfl) :
    PE X (.Call (.Name "isinstance" p) [e, .Name x q] [] pos) (tD X.K (fIsi T f)) := by
  refine PE.weak (pe_callB call_isi hg hm (by decide +kernel) (pa_cons ha (pa_cons (pe_bltn (v := .ty T) hg2 hm2 hv rfl hn hd) pa_nil he2) he) (by decide) (by decide) he hpl) ?_
  rintro σ H Q ⟨F, env, as, d, env', hK, E, ef, q⟩
  unfold fIsi at ef
  cases r1 : f env with
  | none => rw [r1] at ef; cases ef
  | some p =>
    obtain ⟨l, e1⟩ := p
    simp only [r1] at ef
    cases r2 : res e1 l with
    | none => simp only [r2] at ef; cases ef
    | some d0 =>
      simp only [r2] at ef
      refine ⟨F, env, as, l, e1, hK, E, r1, fun v H1 as1 E1 S1 i1 => ?_⟩
      have c := i1.c E1 r2
      have hK' : (Av as1 F.B).K = X.K := hK
      have fin : (∀ ds, d0 ≠ .dT ds) → (D.bl (isiB (tnOf d0) T), e1) = (d, env') → rIsi X.K [v, .ty T] H1 Q := fun nt z => by
        cases z
        exact ⟨v, .ty T, .type (tnOf d0), .type T, _, rfl, .ty T, hK' ▸ tyX_of c nt, kit_ty (kit_all _ (tnOf_mem d0) T hT), q _ H1 as1 E1 S1 (.bl _)⟩
      cases d0 with
      | dT ds => cases ef
      | _ => exact fin (fun _ z => nomatch z) (Option.some.inj ef)
end

/-! ### repr, where nothing is being shown -/
def gRepr : List D → Option D
  | [.dK _] => none
  | [.dT _] => none
  | [d] => if (py d).showable && SeqAt.shaped (py d) && decide ((py d).shown.length ≤ mx) then some (.str (py d).shown) else none
  | _ => none
def rRepr (K : PySem.W.Frag) : List V → Hp → VK → Prop := fun xs H Q => ∃ v p, xs = [v] ∧ Dp K H v p ∧ p.showable = true ∧ SeqAt.shaped p = true ∧ p.shown.length ≤ sizeLine ∧ Q (.str p.shown) H
theorem call_reprA {X : Cx} (hg : X.A.guards = some []) (hu : X.A.units + 66 < cLine) : CallR X (.builtin "repr") (rRepr X.K) := by
  intro pins s σ H xs us Q I r h
  obtain ⟨v, p, rfl, hp, hs, hsh, hz, q⟩ := h
  obtain ⟨u, rfl, rv⟩ := vals1 r
  have dep := SeqAt.depth_of_shaped hsh
  have hd : p.hasDict = true → False := fun z => by
    rw [PyData.hasDict_of_canLay p (SeqAt.canLay_of_shaped hsh)] at z
    cases z
  have ref : ∀ a, u = .ref a → wpAny (model X.prog X.w) X.A (call (.builtin "repr") [u]) (EP X pins σ Q) X.xe s := fun a e => by
    subst e
    obtain ⟨as, rd⟩ := Dp.reads I p v _ hp rv
    exact repr_of_reads' rd hs (fun z => (hd z).elim) hg (by omega) (fun _ _ e => e) (fun h' u tk hk => ⟨.str p.shown, H, I.kept (t' := tk) hk, ⟨u, rfl⟩, q⟩) hz
  cases hp with
  | non =>
    cases (show u = Value.none from rv)
    exact PySem.P.repr_of_none ⟨.str _, H, I.tok _, ⟨_, rfl⟩, by simpa [PyData.shown] using q⟩
  | bl b =>
    cases (show u = Value.bool b from rv)
    exact PySem.P.repr_of_bool ⟨.str _, H, I.tok _, ⟨_, rfl⟩, by simpa [PyData.shown] using q⟩
  | int i =>
    obtain ⟨t, rfl⟩ := rv
    exact PySem.P.repr_of_int (by simpa [PyData.showable] using hs) ⟨.str _, H, I.tok _, ⟨_, rfl⟩, by simpa [PyData.shown] using q⟩
  | str x =>
    obtain ⟨t, rfl⟩ := rv
    exact PySem.P.repr_of_str ⟨.str _, H, I.tok _, ⟨_, rfl⟩, by simpa [PyData.shown] using q⟩ (by simpa [PyData.shown] using hz)
  | lst h1 h2 => exact ref _ rv
  | tup h1 h2 => exact ref _ rv
theorem g_repr {K : PySem.W.Frag} : GL K (rRepr K) gRepr := by
  intro H A xs ds d Q hK hA hx hg q
  subst hK
  unfold gRepr at hg
  split at hg
  · cases hg
  · cases hg
  · split at hg
    · rename_i d0 _ _ hs
      rw [Bool.and_eq_true, Bool.and_eq_true, decide_eq_true_eq] at hs
      cases hg
      obtain ⟨v, rfl, h⟩ := hx.one
      exact ⟨v, _, rfl, h.dp (SeqAt.canLay_of_shaped hs.1.2), hs.1.1, hs.1.2, mx_line hs.2, q _ H (Gr.refl H) (.str _)⟩
    · cases hg
  · cases hg

/-! ### what is walked -/
abbrev FI := En → Option (List D × En)

/-- the walk J yields the data ds one by one, as long as what stood clear of A0 is kept -/
def IterD (J : It) (ds : List D) (H0 : Hp) (A0 : Ax) : Prop :=
  ∀ (i : Nat) (Hi : Hp) (A : Ax), Kx H0 A0 Hi A → (∀ a, A a → ∃ o, Hi a = some o ∧ isMu o = true) →
    (∀ d, ds[i]? = some d → J.go i Hi ∧ ∀ x H', J.yld i Hi x H' → Gr Hi H' ∧ IsD H' A x d) ∧ (ds.length ≤ i → J.stop i Hi)
def tI (K : PySem.W.Frag) (f : FI) : TI := fun σ H R => ∃ F env as ds env', F.B.K = K ∧ EnvOk F H σ env as ∧ f env = some (ds, env') ∧
  ∀ J H' as', EnvOk F H' σ env' as' → Step as H as' H' → IterD J ds H' (Av as' F.B) → R J H'
theorem PI.weak {X : Cx} {tg e : Expr} {t t' : TI} (h : PI X tg e t) (w : ∀ σ H Q, t' σ H Q → t σ H Q) : PI X tg e t' := ⟨fun pins s σ H Q I q => h.run pins s σ H Q I (w σ H Q q)⟩
theorem PI.or {X : Cx} {tg e : Expr} {t t' : TI} (h : PI X tg e t) (h' : PI X tg e t') : PI X tg e (fun σ H R => t σ H R ∨ t' σ H R) := ⟨fun pins s σ H Q I q => q.elim (h.run pins s σ H Q I) (h'.run pins s σ H Q I)⟩
theorem iter_lst {K : PySem.W.Frag} {H : Hp} {A : Ax} {a : Addr} {xs : List V} {ds : List D} (hK : A.K = K) (h : (H a = some (.lst xs) ∧ ¬ A a) ∨ ((∃ o, H a = some (.frz o (.lst xs))) ∧ ¬ A a) ∨ KL K a xs) (s : IsDs H A xs ds) : IterD (Itl K a) ds H A := by
  intro i Hi A' k hA
  have r : SqL K Hi a xs := by
    rcases h with ⟨h, n⟩ | ⟨⟨o, h⟩, n⟩ | h
    · exact SqL.of (k.keep _ _ h n)
    · exact .inl (.inr ⟨o, k.keep _ _ h n⟩)
    · exact .inr h
  refine ⟨fun d e => ?_, fun hl => ⟨xs, r, by rw [s.length]; exact hl⟩⟩
  obtain ⟨v, e1, i1⟩ := s.get e
  refine ⟨⟨xs, v, r, e1⟩, fun x H' y => ?_⟩
  obtain ⟨rfl, y⟩ := y
  have ex := y xs r
  rw [e1] at ex
  cases ex
  exact ⟨Gr.refl _, i1.kp k.kp⟩
theorem iter_tup {K : PySem.W.Frag} {H : Hp} {A : Ax} {a : Addr} {xs : List V} {ds : List D} (h : Rd H a (.tup xs)) (n : ¬ A a) (s : IsDs H A xs ds) : IterD (Itt K a) ds H A := by
  intro i Hi A' k hA
  have r : SqT K Hi a xs := .inl (h.imp (fun h => k.keep _ _ h n) fun ⟨o, h⟩ => ⟨o, k.keep _ _ h n⟩)
  refine ⟨fun d e => ?_, fun hl => ⟨xs, r, by rw [s.length]; exact hl⟩⟩
  obtain ⟨v, e1, i1⟩ := s.get e
  refine ⟨⟨xs, v, r, e1⟩, fun x H' y => ?_⟩
  obtain ⟨rfl, y⟩ := y
  have ex := y xs r
  rw [e1] at ex
  cases ex
  exact ⟨Gr.refl _, i1.kp k.kp⟩
def fiSeq (f : FE) : FI := fun env => match f env with
  | none => none
  | some (d, e) => (seqOf d).map fun ds => (ds, e)
/-- the ints lo, lo + 1, .. of them n -/
def rngD (lo : Int) (n : Nat) : List D := (List.range n).map fun i => .int (lo + (i : Nat))
theorem rngD_at {lo : Int} {n i : Nat} {d : D} (h : (rngD lo n)[i]? = some d) : i < n ∧ d = .int (lo + (i : Nat)) := by
  unfold rngD at h
  rw [List.getElem?_map] at h
  by_cases hi : i < n
  · rw [List.getElem?_range hi] at h
    cases h
    exact ⟨hi, rfl⟩
  · rw [List.getElem?_eq_none (by rw [List.length_range]; omega)] at h
    cases h
theorem iter_rng {H : Hp} {A : Ax} {lo : Int} {n : Nat} : IterD (Itr lo n) (rngD lo n) H A := by
  intro i Hi A' k hA
  refine ⟨fun d e => ?_, fun hl => ?_⟩
  · obtain ⟨h1, rfl⟩ := rngD_at e
    refine ⟨h1, fun x H' y => ?_⟩
    obtain ⟨rfl, rfl⟩ := y
    exact ⟨Gr.refl _, .int _⟩
  · unfold rngD at hl
    rw [List.length_map, List.length_range] at hl
    exact hl
/-- lo, lo + c, .. -/
def rngC (lo c : Int) (n : Nat) : List D := (List.range n).map fun i => .int (lo + (i : Nat) * c)
theorem iter_rngC {H : Hp} {A : Ax} {lo c : Int} {n : Nat} : IterD (Itc lo c n) (rngC lo c n) H A := by
  intro i Hi A' k hA
  refine ⟨fun d e => ?_, fun hl => ?_⟩
  · unfold rngC at e
    rw [List.getElem?_map] at e
    by_cases hi : i < n
    · rw [List.getElem?_range hi] at e
      cases e
      refine ⟨hi, fun x H' y => ?_⟩
      obtain ⟨rfl, rfl⟩ := y
      exact ⟨Gr.refl _, .int _⟩
    · rw [List.getElem?_eq_none (by rw [List.length_range]; omega)] at e
      cases e
  · unfold rngC at hl
    rw [List.length_map, List.length_range] at hl
    exact hl
def fiRng1 (fs : FLs) : FI := fun env => match fs env with
  | none => none
  | some (ls, e) => match ress e ls with
    | some [.int j] => if -(2 ^ 62) ≤ j ∧ j < 2 ^ 62 then some (rngD 0 j.toNat, e) else none
    | _ => none
def fiRng2 (fs : FLs) : FI := fun env => match fs env with
  | none => none
  | some (ls, e) => match ress e ls with
    | some [.int i, .int j] => if -(2 ^ 62) ≤ i ∧ i < 2 ^ 62 ∧ -(2 ^ 62) ≤ j ∧ j < 2 ^ 62 then some (rngD i (j - i).toNat, e) else none
    | _ => none
/-- downwards by one -/
def fiRngD (fs : FLs) : FI := fun env => match fs env with
  | none => none
  | some (ls, e) => match ress e ls with
    | some [.int i, .int j, .int c] => if c = -1 ∧ -(2 ^ 62) ≤ i ∧ i < 2 ^ 62 ∧ -(2 ^ 62) ≤ j ∧ j < 2 ^ 62 then some (rngC i (-1) (i - j).toNat, e) else none
    | _ => none
/-- pairs of two lists, of two tuples -/
def zipD : D → D → Option (List D)
  | .tup xs, .tup ys => some ((xs.zip ys).map fun p => .tup [p.1, p.2])
  | .lst xs, .lst ys => some ((xs.zip ys).map fun p => .tup [p.1, p.2])
  | _, _ => none
def fiZip (f : FA) : FI := fun env => match f env with
  | none => none
  | some (ds, e) => match ds with
    | [x, y] => (zipD x y).map fun r => (r, e)
    | _ => none
theorem zip_at {xs ys : List D} {i : Nat} {d : D} (h : ((xs.zip ys).map fun p => D.tup [p.1, p.2])[i]? = some d) : ∃ x y, xs[i]? = some x ∧ ys[i]? = some y ∧ d = .tup [x, y] := by
  rw [List.getElem?_map] at h
  cases e : (xs.zip ys)[i]? with
  | none => rw [e] at h; cases h
  | some p =>
    rw [e] at h
    cases h
    obtain ⟨h1, h2⟩ := List.getElem?_zip_eq_some.mp e
    exact ⟨p.1, p.2, h1, h2, rfl⟩
theorem new_pair {H : Hp} {A : Ax} {T : Addr} {x y : V} {a b : D} (hT : H T = none) (hA : ∀ p, A p → H p ≠ none) (h1 : IsD H A x a) (h2 : IsD H A y b) : IsD (upd H T (.tup [x, y])) A (.ref T) (.tup [a, b]) := new_tup hT hA (.cons h1 (.cons h2 .nil))
theorem mu_ne {H : Hp} {A : Ax} (hA : ∀ a, A a → ∃ o, H a = some o ∧ isMu o = true) : ∀ a, A a → H a ≠ none := fun a h => let ⟨_, e, _⟩ := hA a h; some_ne e
theorem iter_zipT {K : PySem.W.Frag} {H : Hp} {A : Ax} {a b : Addr} {xs ys : List V} {ds es : List D} (h1 : H a = some (.tup xs)) (n1 : ¬ A a) (s1 : IsDs H A xs ds) (h2 : H b = some (.tup ys)) (n2 : ¬ A b) (s2 : IsDs H A ys es) :
    IterD (RZ.ItzT K a b) ((ds.zip es).map fun p => .tup [p.1, p.2]) H A := by
  intro i Hi A' k hA
  have r1 : SqT K Hi a xs := SqT.of (k.keep _ _ h1 n1)
  have r2 : SqT K Hi b ys := SqT.of (k.keep _ _ h2 n2)
  refine ⟨fun d e => ?_, fun hl => ⟨xs, ys, r1, r2, ?_⟩⟩
  · obtain ⟨x, y, e1, e2, rfl⟩ := zip_at e
    obtain ⟨v, f1, i1⟩ := s1.get e1
    obtain ⟨u, f2, i2⟩ := s2.get e2
    refine ⟨⟨xs, ys, v, u, r1, r2, f1, f2⟩, fun z H' y => ?_⟩
    obtain ⟨T, v', u', rfl, hT, rfl, y1, y2⟩ := y
    have ev := y1 xs r1
    have eu := y2 ys r2
    rw [f1] at ev
    rw [f2] at eu
    cases ev
    cases eu
    exact ⟨Gr.new hT, new_pair hT (mu_ne hA) (i1.kp k.kp) (i2.kp k.kp)⟩
  · rw [List.length_map, List.length_zip, ← s1.length, ← s2.length] at hl
    omega
theorem iter_zipL {K : PySem.W.Frag} {H : Hp} {A : Ax} {a b : Addr} {xs ys : List V} {ds es : List D} (h1 : H a = some (.lst xs)) (n1 : ¬ A a) (s1 : IsDs H A xs ds) (h2 : H b = some (.lst ys)) (n2 : ¬ A b) (s2 : IsDs H A ys es) :
    IterD (Itz K a b) ((ds.zip es).map fun p => .tup [p.1, p.2]) H A := by
  intro i Hi A' k hA
  have r1 : SqL K Hi a xs := SqL.of (k.keep _ _ h1 n1)
  have r2 : SqL K Hi b ys := SqL.of (k.keep _ _ h2 n2)
  refine ⟨fun d e => ?_, fun hl => ⟨xs, ys, r1, r2, ?_⟩⟩
  · obtain ⟨x, y, e1, e2, rfl⟩ := zip_at e
    obtain ⟨v, f1, i1⟩ := s1.get e1
    obtain ⟨u, f2, i2⟩ := s2.get e2
    refine ⟨⟨xs, ys, v, u, r1, r2, f1, f2⟩, fun z H' y => ?_⟩
    obtain ⟨T, v', u', rfl, hT, rfl, y1, y2⟩ := y
    have ev := y1 xs r1
    have eu := y2 ys r2
    rw [f1] at ev
    rw [f2] at eu
    cases ev
    cases eu
    exact ⟨Gr.new hT, new_pair hT (mu_ne hA) (i1.kp k.kp) (i2.kp k.kp)⟩
  · rw [List.length_map, List.length_zip, ← s1.length, ← s2.length] at hl
    omega
section
variable {X : Cx} {tg e : Expr} {p pos : Pos}
theorem di_seq {f : FE} (h : PE X e (tD X.K f)) : PI X tg e (tI X.K (fiSeq f)) := by
  refine PI.weak (PI.or (pi_list h) (pi_tup h)) ?_
  rintro σ H R ⟨F, env, as, ds, env', hK, E, ef, q⟩
  unfold fiSeq at ef
  cases r1 : f env with
  | none => rw [r1] at ef; cases ef
  | some p =>
    obtain ⟨d, e1⟩ := p
    rw [r1] at ef
    cases d with
    | lst es =>
      cases ef
      refine .inl ⟨F, env, as, _, _, hK, E, r1, fun v H1 as1 E1 S1 i1 => ?_⟩
      cases i1 with
      | lst h1 n s => exact ⟨_, rfl, ⟨_, SqL.of h1⟩, q _ H1 as1 E1 S1 (iter_lst hK (.inl ⟨h1, n⟩) s)⟩
    | frl es =>
      cases ef
      refine .inl ⟨F, env, as, _, _, hK, E, r1, fun v H1 as1 E1 S1 i1 => ?_⟩
      cases i1 with
      | frl h1 s =>
        rcases h1 with ⟨h1 | ⟨o, h1⟩, n⟩ | h1
        · exact ⟨_, rfl, ⟨_, SqL.of h1⟩, q _ H1 as1 E1 S1 (iter_lst hK (.inl ⟨h1, n⟩) s)⟩
        · exact ⟨_, rfl, ⟨_, .inl (.inr ⟨o, h1⟩)⟩, q _ H1 as1 E1 S1 (iter_lst hK (.inr (.inl ⟨⟨o, h1⟩, n⟩)) s)⟩
        · have h2 : KL X.K _ _ := (show (Av as1 F.B).K = X.K from hK) ▸ h1
          exact ⟨_, rfl, ⟨_, .inr h2⟩, q _ H1 as1 E1 S1 (iter_lst hK (.inr (.inr h2)) s)⟩
    | tup es =>
      cases ef
      refine .inr ⟨F, env, as, _, _, hK, E, r1, fun v H1 as1 E1 S1 i1 => ?_⟩
      cases i1 with
      | tup h1 n s => exact ⟨_, rfl, ⟨_, SqT.of h1⟩, q _ H1 as1 E1 S1 (iter_tup (.inl h1) n s)⟩
    | ptp es =>
      cases ef
      refine .inr ⟨F, env, as, _, _, hK, E, r1, fun v H1 as1 E1 S1 i1 => ?_⟩
      cases i1 with
      | ptp h1 _ n s => exact ⟨_, rfl, ⟨_, .inl (.inr ⟨_, h1⟩)⟩, q _ H1 as1 E1 S1 (iter_tup (.inr ⟨_, h1⟩) n s)⟩
    | _ => cases ef
theorem IsCs.ints1 {H : Hp} {A : Ax} {vs : List V} {i : Int} (h : IsCs H A vs [.int i]) : vs = [.int i] := by
  obtain ⟨v, rfl, h1⟩ := h.one
  rw [h1.int]
theorem IsCs.ints2 {H : Hp} {A : Ax} {vs : List V} {i j : Int} (h : IsCs H A vs [.int i, .int j]) : vs = [.int i, .int j] := by
  obtain ⟨v, u, rfl, h1, h2⟩ := h.two
  rw [h1.int, h2.int]
theorem di_rng1 {a : Expr} {fs : FLs} (hg : Gl X "range") (hm : X.mg "range" = none) (ha : PA X [a] (tLs X.K fs)) (hs : starEach [a] X.env = [(false, eval a X.env)] := by rfl) : PI X tg (.Call (.Name "range" p) [a] [] pos) (tI X.K (fiRng1 fs)) := by
  refine PI.weak (pi_range1 hg hm ha hs) ?_
  rintro σ H R ⟨F, env, as, ds, env', hK, E, ef, q⟩
  unfold fiRng1 at ef
  cases r1 : fs env with
  | none => rw [r1] at ef; cases ef
  | some p =>
    obtain ⟨ls, e1⟩ := p
    simp only [r1] at ef
    split at ef
    · rename_i j r2
      split at ef
      · rename_i hb
        cases ef
        exact ⟨F, env, as, ls, _, hK, E, r1, fun vs H1 as1 E1 S1 i1 => ⟨j, (i1.c E1 r2).ints1, hb.1, hb.2, q _ H1 as1 E1 S1 iter_rng⟩⟩
      · cases ef
    · cases ef
theorem di_rng2 {a b : Expr} {fs : FLs} (hg : Gl X "range") (hm : X.mg "range" = none) (ha : PA X [a, b] (tLs X.K fs)) (hs : starEach [a, b] X.env = [(false, eval a X.env), (false, eval b X.env)] := by rfl) (hs2 : starEach [b] X.env = [(false, eval b X.env)] := by rfl) :
    PI X tg (.Call (.Name "range" p) [a, b] [] pos) (tI X.K (fiRng2 fs)) := by
  refine PI.weak (pi_range2 hg hm ha hs hs2) ?_
  rintro σ H R ⟨F, env, as, ds, env', hK, E, ef, q⟩
  unfold fiRng2 at ef
  cases r1 : fs env with
  | none => rw [r1] at ef; cases ef
  | some p =>
    obtain ⟨ls, e1⟩ := p
    simp only [r1] at ef
    split at ef
    · rename_i i j r2
      split at ef
      · rename_i hb
        cases ef
        exact ⟨F, env, as, ls, _, hK, E, r1, fun vs H1 as1 E1 S1 i1 => ⟨i, j, (i1.c E1 r2).ints2, hb, q _ H1 as1 E1 S1 iter_rng⟩⟩
      · cases ef
    · cases ef
theorem di_zip {e2 : Expr} {f : FA} {tpos : Pos} {elts : List Expr} {kk : Nat} (hg : Gl X "zip") (hm : X.mg "zip" = none) (ha : PA X [e, e2] (tA X.K f))
    (hs : starEach [e, e2] X.env = (false, eval e X.env) :: starEach [e2] X.env := by rfl) (hpl : (backTo pos (starEach [e2] X.env)).any (·.1) = false := by rfl) :
    PI X (.Tuple elts kk tpos) (.Call (.Name "zip" p) [e, e2] [] pos) (tI X.K (fiZip f)) := by
  refine PI.weak (RZ.pi_zipA hg hm ha hs hpl) ?_
  rintro σ H R ⟨F, env, as, ds, env', hK, E, ef, q⟩
  unfold fiZip at ef
  cases r1 : f env with
  | none => rw [r1] at ef; cases ef
  | some p =>
    obtain ⟨xs, e1⟩ := p
    simp only [r1] at ef
    split at ef
    · rename_i x y
      cases r2 : zipD x y with
      | none => rw [r2] at ef; cases ef
      | some r =>
        rw [r2] at ef
        cases ef
        refine ⟨F, env, as, _, _, hK, E, r1, fun vs H1 as1 E1 S1 i1 => ?_⟩
        cases i1 with
        | cons i1 t =>
          cases t with
          | cons i2 t =>
            cases t
            unfold zipD at r2
            split at r2
            · cases r2
              cases i1 with
              | tup h1 n1 s1 => cases i2 with
                | tup h2 n2 s2 => exact ⟨_, _, _, _, rfl, .inr ⟨SqT.of h1, SqT.of h2, q _ H1 as1 E1 S1 (iter_zipT h1 n1 s1 h2 n2 s2)⟩⟩
            · cases r2
              cases i1 with
              | lst h1 n1 s1 => cases i2 with
                | lst h2 n2 s2 => exact ⟨_, _, _, _, rfl, .inl ⟨SqL.of h1, SqL.of h2, q _ H1 as1 E1 S1 (iter_zipL h1 n1 s1 h2 n2 s2)⟩⟩
            · cases r2
    · cases ef
end
end DL
/-! The data layer: slots stored, targets, statements. -/
namespace DL
open PySem PySem.Spec PyProof.Rows L2

/-! ### one slot changed -/
theorem kpAv {H : Hp} {as as' : List (Option Addr)} {B B' : Ax} (k : B'.K = B.K) (h : ∀ a, (some a ∈ as' ∨ B' a) → some a ∈ as ∨ B a) : Kp H (Av as B) H (Av as' B') := Kp.less k h
theorem mem_set_none {as : List (Option Addr)} {i : Nat} {a : Addr} (h : some a ∈ as.set i none) : some a ∈ as := by
  obtain ⟨j, hj, e⟩ := List.getElem_of_mem h
  rw [List.length_set] at hj
  rw [List.getElem_set] at e
  split at e
  · cases e
  · exact e ▸ List.getElem_mem hj
theorem at_set_none {as : List (Option Addr)} {i j : Nat} {a : Addr} (h : (as.set i none)[j]? = some (some a)) : as[j]? = some (some a) ∧ j ≠ i := by
  by_cases e : i = j
  · subst e
    by_cases hl : i < as.length
    · rw [List.getElem?_set_self hl] at h; cases h
    · rw [List.getElem?_eq_none (by rw [List.length_set]; omega)] at h; cases h
  · rw [List.getElem?_set_ne e] at h
    exact ⟨h, fun z => e z.symm⟩
theorem at_set_ne {α : Type} {l : List α} {i j : Nat} {x : α} (e : j ≠ i) : (l.set i x)[j]? = l[j]? := List.getElem?_set_ne fun z => e z.symm
theorem mem_at {as : List (Option Addr)} {a : Addr} (h : some a ∈ as) : ∃ i : Nat, as[i]? = some (some a) := by
  obtain ⟨j, hj, e⟩ := List.getElem_of_mem h
  exact ⟨j, by rw [List.getElem?_eq_getElem hj, e]⟩
theorem at_mem {as : List (Option Addr)} {a : Addr} {i : Nat} (h : as[i]? = some (some a)) : some a ∈ as := List.mem_of_getElem? h
/-- a slot that is not the caller's -/
def Sl.mine : Sl → Bool
  | .own true _ => false
  | _ => true
def setE (i : Nat) (d : D) (env : En) : Option En := match env[i]? with
  | some (.own true _) => none
  | none => none
  | some _ => some (env.set i (.val d))
theorem setE_is {i : Nat} {d : D} {env env' : En} (h : setE i d env = some env') : ∃ s, env[i]? = some s ∧ s.mine = true ∧ env' = env.set i (.val d) := by
  unfold setE at h
  split at h
  · cases h
  · cases h
  · rename_i s e1 e2
    cases h
    refine ⟨_, e2, ?_, rfl⟩
    cases s with
    | un => rfl
    | val d => rfl
    | own io d => cases io with
      | true => exact (e1 d rfl).elim
      | false => rfl
section
variable {F : Fm} {H : Hp} {σ : Sg} {env : En} {as : List (Option Addr)} {i : Nat} {s s' : Sl}
theorem set_self {α : Type} {l : List α} {i : Nat} {x : α} (h : l[i]? = some x) : l.set i x = l := by
  apply List.ext_getElem?
  intro j
  by_cases e : j = i
  · subst e
    rw [List.getElem?_set_self (List.getElem?_eq_some_iff.mp h).1, h]
  · rw [at_set_ne e]
/-- a slot gets data, or is forgotten -/
theorem EnvOk.put (E : EnvOk F H σ env as) (hi : env[i]? = some s) (hm : s.mine = true) {x : Option V} (hs : SlOk H (Av (as.set i none) F.B) x s' none) (hm' : ∀ io d, s' ≠ .own io d) :
    EnvOk F H (σ.set i x) (env.set i s') (as.set i none) ∧ Step as H (as.set i none) H := by
  have nio : ∀ d, env[i]? ≠ some (.own true d) := fun d z => by rw [hi] at z; cases z; cases hm
  have sub : ∀ a, Av (as.set i none) F.B a → Av as F.B a := fun a z => Or.elim z (fun z => Or.inl (mem_set_none z)) Or.inr
  refine ⟨⟨SlsOk.set hs i (E.sl.kp (kpAv rfl sub) fun _ _ _ e => e), fun j k a h1 h2 => E.nd j k a (at_set_none h1).1 (at_set_none h2).1, fun a h => E.ap a (mem_set_none h), E.bd, fun p hp => ?_, fun j d e => ?_, fun j a d h1 h2 => ?_, E.dom⟩, ⟨fun _ _ e _ => e, fun _ e => e, fun b z => .inl (mem_set_none z)⟩⟩
  · obtain ⟨e1, d, e2⟩ := E.pin p hp
    have ne : p.1 ≠ i := fun z => nio d (z ▸ e2)
    exact ⟨by rw [at_set_ne ne]; exact e1, d, by rw [at_set_ne ne]; exact e2⟩
  · by_cases ne : j = i
    · subst ne
      rw [List.getElem?_set_self (List.getElem?_eq_some_iff.mp hi).1] at e
      exact absurd (Option.some.inj e) (hm' _ _)
    · rw [at_set_ne ne] at e
      exact E.io j d e
  · obtain ⟨h3, ne⟩ := at_set_none h1
    rw [at_set_ne ne] at h2
    exact E.fr j a d h3 h2
theorem EnvOk.setV (E : EnvOk F H σ env as) {env' : En} {d : D} {v : V} (h : setE i d env = some env') (hd : IsD H (Av as F.B) v d) :
    EnvOk F H (σ.set i (some v)) env' (as.set i none) ∧ Step as H (as.set i none) H := by
  obtain ⟨s, hi, hm, rfl⟩ := setE_is h
  exact E.put hi hm (.val (hd.kp (kpAv rfl fun a z => z.elim (fun z => Or.inl (mem_set_none z)) Or.inr))) fun _ _ z => nomatch z
/-- a slot gets a new list or dict of its own -/
def ownE (i : Nat) (d : D) (env : En) : Option En := match env[i]? with
  | some (.own true _) => none
  | none => none
  | some _ => some (env.set i (.own false d))
theorem ownE_is {d : D} {env env' : En} (h : ownE i d env = some env') : ∃ s, env[i]? = some s ∧ s.mine = true ∧ env' = env.set i (.own false d) := by
  unfold ownE at h
  split at h
  · cases h
  · cases h
  · rename_i s e1 e2
    cases h
    refine ⟨_, e2, ?_, rfl⟩
    cases s with
    | un => rfl
    | val d => rfl
    | own io d => cases io with
      | true => exact (e1 d rfl).elim
      | false => rfl
theorem at_set_some {as : List (Option Addr)} {i j : Nat} {a b : Addr} (h : (as.set i (some a))[j]? = some (some b)) : (j = i ∧ b = a) ∨ (j ≠ i ∧ as[j]? = some (some b)) := by
  by_cases e : j = i
  · subst e
    by_cases hl : j < as.length
    · rw [List.getElem?_set_self hl] at h; cases h; exact .inl ⟨rfl, rfl⟩
    · rw [List.getElem?_eq_none (by rw [List.length_set]; omega)] at h; cases h
  · rw [at_set_ne e] at h
    exact .inr ⟨e, h⟩
theorem EnvOk.setO {a : Addr} (E : EnvOk (F.add a) H σ env as) {env' : En} {d : D} (h : ownE i d env = some env') (hd : NewAt H (Av as F.B) a d) (hf : F.H0 a = none) :
    EnvOk F H (σ.set i (some (.ref a))) env' (as.set i (some a)) := by
  obtain ⟨s, hi, hm, rfl⟩ := ownE_is h
  have nio : ∀ d, env[i]? ≠ some (.own true d) := fun d z => by rw [hi] at z; cases z; cases hm
  have sub : ∀ x, Av (as.set i (some a)) F.B x → Av as F.B x ∨ x = a := fun x z => by
    rcases z with z | z
    · obtain ⟨j, e⟩ := mem_at z
      rcases at_set_some e with ⟨_, e⟩ | ⟨_, e⟩
      · exact .inr e
      · exact .inl (Or.inl (at_mem e))
    · exact .inl (Or.inr z)
  have kp : Kp H (Av as (F.add a).B) H (Av (as.set i (some a)) F.B) := Kp.less rfl fun x z => by
    rcases sub x z with z | z
    · exact Or.elim z (fun z => Or.inl z) fun z => Or.inr (Or.inl z)
    · exact Or.inr (Or.inr z)
  have kp2 : Kp H ((Av as F.B).add a) H (Av (as.set i (some a)) F.B) := Kp.less rfl fun x z => sub x z
  have na : ∀ j, as[j]? ≠ some (some a) := fun j z => E.ap a (at_mem z) (.inr rfl)
  refine ⟨SlsOk.set (.own (hd.o.kp kp2 fun _ e => e)) i (E.sl.kp kp fun _ _ _ e => e), fun j k b h1 h2 => ?_, fun b h => ?_, fun b z => E.bd b (.inl z), fun p hp => ?_, fun j d e => ?_, fun j b d' h1 h2 => ?_, E.dom⟩
  · rcases at_set_some h1 with ⟨e1, e2⟩ | ⟨e1, e2⟩
    · rcases at_set_some h2 with ⟨f1, f2⟩ | ⟨f1, f2⟩
      · rw [e1, f1]
      · rw [e2] at f2; exact absurd f2 (na k)
    · rcases at_set_some h2 with ⟨f1, f2⟩ | ⟨f1, f2⟩
      · rw [f2] at e2; exact absurd e2 (na j)
      · exact E.nd j k b e2 f2
  · obtain ⟨j, e⟩ := mem_at h
    rcases at_set_some e with ⟨_, e⟩ | ⟨_, e⟩
    · exact fun z => hd.n (e ▸ Or.inr z)
    · exact fun z => E.ap b (at_mem e) (.inl z)
  · obtain ⟨e1, d', e2⟩ := E.pin p hp
    have ne : p.1 ≠ i := fun z => nio d' (z ▸ e2)
    exact ⟨by rw [at_set_ne ne]; exact e1, d', by rw [at_set_ne ne]; exact e2⟩
  · by_cases ne : j = i
    · subst ne
      rw [List.getElem?_set_self (List.getElem?_eq_some_iff.mp hi).1] at e
      cases e
    · rw [at_set_ne ne] at e
      exact E.io j d e
  · rcases at_set_some h1 with ⟨_, e2⟩ | ⟨ne, e2⟩
    · rw [e2]; exact hf
    · rw [at_set_ne ne] at h2
      exact E.fr j b d' e2 h2
/-- a slot's own list or dict is no longer written -/
def frzE (i : Nat) (env : En) : En := match env[i]? with
  | some (.own false d) => env.set i (.val d)
  | _ => env
theorem EnvOk.frz (E : EnvOk F H σ env as) (i : Nat) : ∃ as', EnvOk F H σ (frzE i env) as' ∧ Step as H as' H := by
  unfold frzE
  split
  · rename_i d e
    obtain ⟨x, o, h1, h2, h3⟩ := E.sl.at e
    cases h3 with
    | own q =>
      rename_i a
      have n : ¬ Av (as.set i none) F.B a := fun z => by
        rcases z with z | z
        · obtain ⟨j, e⟩ := mem_at z
          obtain ⟨e, ne⟩ := at_set_none e
          exact ne (E.nd j i a e h2)
        · exact E.ap a (at_mem h2) z
      have k : Kp H (Av as F.B) H (Av (as.set i none) F.B) := kpAv rfl fun a z => z.elim (fun z => Or.inl (mem_set_none z)) Or.inr
      obtain ⟨E', S⟩ := E.put (s' := .val d) (x := some (.ref a)) e rfl (.val ((q.kp k fun _ e => e).isD n)) fun _ _ z => nomatch z
      rw [set_self h1] at E'
      exact ⟨_, E', S⟩
  · exact ⟨as, E, Step.refl _ _⟩
/-- a slot's own list or dict is written -/
theorem SlsOk.upd {H H' : Hp} {A : Ax} {a : Addr} {io : Bool} {d d' : D} (k : Kp H A H' A) (o : OwnAt H' A a d') : ∀ {σ : Sg} {env : En} {as : List (Option Addr)} {i : Nat}, SlsOk H A σ env as →
    (∀ j b, j ≠ i → as[j]? = some (some b) → ∀ u, H b = some u → H' b = some u) → env[i]? = some (.own io d) → as[i]? = some (some a) → SlsOk H' A σ (env.set i (.own io d')) as
  | _, _, _, _, .nil, _, e, _ => by simp at e
  | _, _, _, 0, .cons h t, ne, e, e2 => by
    simp at e e2
    subst e e2
    cases h with
    | own q => exact .cons (.own o) (t.kp k fun b u m => by
        obtain ⟨j, hj⟩ := mem_at m
        exact ne (j + 1) b (Nat.succ_ne_zero _) (by simpa using hj) u)
  | _, _, _, i + 1, .cons h t, ne, e, e2 => by
    rw [List.set_cons_succ]
    exact .cons (h.kp k fun b u m => ne 0 b (Nat.succ_ne_zero _).symm (by simp [m]) u) (SlsOk.upd k o t (fun j b n m => ne (j + 1) b (fun z => n (Nat.succ.inj z)) (by simpa using m)) (by simpa using e) (by simpa using e2))
theorem EnvOk.upd (E : EnvOk F H σ env as) {io : Bool} {d d' : D} {a : Addr} {o : HO} (hi : env[i]? = some (.own io d)) (ha : as[i]? = some (some a)) (mo : isMu o = true) (hd : OwnAt (L2.upd H a o) (Av as F.B) a d') :
    EnvOk F (L2.upd H a o) σ (env.set i (.own io d')) as ∧ Step as H as (L2.upd H a o) := by
  have aA : Av as F.B a := Or.inl (at_mem ha)
  have ne : ∀ b, ¬ Av as F.B b → b ≠ a := fun b n z => n (z ▸ aA)
  have kp : Kp H (Av as F.B) (L2.upd H a o) (Av as F.B) := ⟨rfl, fun x xs e n => by rw [upd_ne (ne x n)]; exact e, fun x xs e n => by rw [upd_ne (ne x n)]; exact e, fun x u e n => by
    rcases e with e | ⟨z, e⟩
    · exact .inl (by rw [upd_ne (ne x n)]; exact e)
    · exact .inr ⟨z, by rw [upd_ne (ne x n)]; exact e⟩, fun _ _ n => n⟩
  have dom : ∀ b, H b ≠ none → L2.upd H a o b ≠ none := fun b h => by
    by_cases e : b = a
    · rw [e, upd_same]; exact fun z => nomatch z
    · rw [upd_ne e]; exact h
  have len := (List.getElem?_eq_some_iff.mp hi).1
  refine ⟨⟨E.sl.upd kp hd (fun j b n m u e => ?_) hi ha, E.nd, E.ap, fun b h => ?_, fun p hp => ?_, fun j d e => ?_, fun j b d'' h1 h2 => ?_, fun b h => dom b (E.dom b h)⟩, ⟨fun b u e n => ?_, dom, fun b z => .inl z⟩⟩
  · rw [upd_ne (show b ≠ a from fun z => n (E.nd j i a (by rw [← z]; exact m) ha))]; exact e
  · by_cases e : b = a
    · exact ⟨o, by rw [e, upd_same], mo⟩
    · rw [upd_ne e]; exact E.bd b h
  · obtain ⟨e1, z, e2⟩ := E.pin p hp
    refine ⟨e1, ?_⟩
    by_cases e : p.1 = i
    · rw [e] at e2 ⊢
      rw [hi] at e2
      cases e2
      exact ⟨d', List.getElem?_set_self len⟩
    · exact ⟨z, by rw [at_set_ne e]; exact e2⟩
  · by_cases e' : j = i
    · subst e'
      rw [List.getElem?_set_self len] at e
      cases e
      exact E.io j _ hi
    · rw [at_set_ne e'] at e
      exact E.io j d e
  · by_cases e' : j = i
    · subst e'
      rw [List.getElem?_set_self len] at h2
      cases h2
      exact E.fr j b d h1 hi
    · rw [at_set_ne e'] at h2
      exact E.fr j b d'' h1 h2
  · rw [upd_ne (show b ≠ a from fun z => n (by rw [z]; exact at_mem ha))]; exact e
end
/-! ### targets -/
abbrev FG := D → En → Option En
abbrev FGs := List D → En → Option En
/-- vs: the places that are stored -/
def tG (K : PySem.W.Frag) (h : FG) (vs : List Nat) : TG := fun v σ H Q => ∃ F env as d env', F.B.K = K ∧ EnvOk F H σ env as ∧ IsD H (Av as F.B) v d ∧ h d env = some env' ∧
  ∀ σ' H' as', EnvOk F H' σ' env' as' → Step as H as' H' → (∀ ws : List Nat, (∀ i ∈ vs, i ∈ ws) → wipe σ' ws = wipe σ ws) → Q σ' H'
def tGs (K : PySem.W.Frag) (h : FGs) (vs : List Nat) : TGs := fun us σ H Q => ∃ F env as ds env', F.B.K = K ∧ EnvOk F H σ env as ∧ IsDs H (Av as F.B) us ds ∧ h ds env = some env' ∧
  ∀ σ' H' as', EnvOk F H' σ' env' as' → Step as H as' H' → (∀ ws : List Nat, (∀ i ∈ vs, i ∈ ws) → wipe σ' ws = wipe σ ws) → Q σ' H'
theorem PG.weak {X : Cx} {e : Expr} {t t' : TG} (h : PG X e t) (w : ∀ v σ H Q, t' v σ H Q → t v σ H Q) : PG X e t' := ⟨fun pins s σ H v u Q I r q => h.run pins s σ H v u Q I r (w v σ H Q q)⟩
theorem PGs.weak {X : Cx} {e : List Expr} {t t' : TGs} (h : PGs X e t) (w : ∀ v σ H Q, t' v σ H Q → t v σ H Q) : PGs X e t' := ⟨fun pins s σ H v u Q I r q => h.run pins s σ H v u Q I r (w v σ H Q q)⟩
theorem wipe_set {σ : Sg} {i : Nat} {x : Option V} : ∀ {ws : List Nat}, i ∈ ws → wipe (σ.set i x) ws = wipe σ ws
  | w :: ws, h => by
    unfold wipe
    by_cases e : i = w
    · subst e
      by_cases h' : i ∈ ws
      · rw [wipe_set h']
      · have : ∀ us : List Nat, i ∉ us → wipe (σ.set i x) us = (wipe σ us).set i x := by
          intro us
          induction us with
          | nil => intro _; rfl
          | cons u us ih =>
            intro n
            have n1 : i ≠ u := fun z => n (z ▸ List.mem_cons_self)
            have n2 : i ∉ us := fun z => n (List.mem_cons_of_mem _ z)
            unfold wipe
            rw [ih n2, List.set_comm _ _ n1]
        rw [this ws h', List.set_set]
    · rcases List.mem_cons.mp h with h | h
      · exact absurd h e
      · rw [wipe_set h]
def fgTup (h : FGs) (n : Nat) : FG := fun d env => match d with
  | .tup ds => if ds.length = n then h ds env else none
  | _ => none
def fgNil : FGs := fun ds env => match ds with
  | [] => some env
  | _ => none
def fgCons (g : FG) (h : FGs) : FGs := fun ds env => match ds with
  | [] => none
  | d :: r => match g d env with
    | none => none
    | some e1 => h r e1
section
variable {X : Cx} {pos : Pos}
theorem dg_name {i : Nat} {x : Str} (hN : X.N.Nodup) (hi : X.N[i]? = some x) (hx : Loc X.env.scope x) (hf : X.fn x = true ∨ X.env.scope.names.lookup x = some .local := by first | exact .inl rfl | exact .inr rfl | assumption) : PG X (.Name x pos) (tG X.K (setE i) [i]) := by
  refine PG.weak (pg_name hN hi hx hf) ?_
  rintro v σ H Q ⟨F, env, as, d, env', hK, E, iv, ef, q⟩
  obtain ⟨E', S⟩ := E.setV ef iv
  exact q _ H _ E' S fun ws hw => wipe_set (hw i List.mem_cons_self)
theorem dgs_nil : PGs X [] (tGs X.K fgNil []) := by
  refine PGs.weak pgs_nil ?_
  rintro v σ H Q ⟨F, env, as, ds, env', hK, E, iv, ef, q⟩
  cases iv with
  | nil => cases ef; exact ⟨rfl, q _ H _ E (Step.refl _ _) fun _ _ => rfl⟩
  | cons _ _ => cases ef
theorem dgs_cons {e : Expr} {es : List Expr} {g : FG} {h : FGs} {vs ws : List Nat} (h1 : PG X e (tG X.K g vs)) (h2 : PGs X es (tGs X.K h ws)) (hs : (assignEach (e :: es) X.env).map (·.2) = assign e X.env :: (assignEach es X.env).map (·.2) := by rfl) :
    PGs X (e :: es) (tGs X.K (fgCons g h) (vs ++ ws)) := by
  refine PGs.weak (pgs_cons h1 h2 hs) ?_
  rintro v σ H Q ⟨F, env, as, ds, env', hK, E, iv, ef, q⟩
  cases iv with
  | nil => cases ef
  | cons i1 i2 =>
    unfold fgCons at ef
    simp only at ef
    split at ef
    · cases ef
    · rename_i e1 r1
      refine ⟨_, _, rfl, F, env, as, _, e1, hK, E, i1, r1, fun σ1 H1 as1 E1 S1 w1 => ⟨F, e1, as1, _, env', hK, E1, i2.st S1, ef, fun σ2 H2 as2 E2 S2 w2 => q σ2 H2 as2 E2 (S1.trans S2) fun us hu => ?_⟩⟩
      rw [w2 us fun i hi => hu i (List.mem_append_right _ hi), w1 us fun i hi => hu i (List.mem_append_left _ hi)]
theorem dg_tup {es : List Expr} {k : Nat} {h : FGs} {vs : List Nat} {n : Nat} (hc : X.calm = true) (ht : PGs X es (tGs X.K h vs)) (hn : (assignEach es X.env).length = n := by rfl) (hst : (assignEach es X.env).findIdx? (·.1) = none := by rfl) :
    PG X (.Tuple es k pos) (tG X.K (fgTup h n) vs) := by
  refine PG.weak (pg_tup hc ht hn hst) ?_
  rintro v σ H Q ⟨F, env, as, d, env', hK, E, iv, ef, q⟩
  unfold fgTup at ef
  split at ef
  · rename_i ds
    split at ef
    · rename_i hl
      cases iv with
      | tup h1 n1 s1 => exact ⟨_, _, rfl, SqT.of h1, s1.length.trans hl, F, env, as, ds, env', hK, E, s1, ef, q⟩
    · cases ef
  · cases ef
end

/-! ### an own list or dict stored into -/
def putD : D → D → D → Option D
  | .lst ds, .int k, v => (ixN ds.length k).map fun j => .lst (ds.set j v)
  | .dK kvs, k, v => match keyOf k with
    | some k => if kvs.length < mx then some (.dK (dput kvs k v)) else none
    | none => none
  | .dT kvs, .tup ks, v => match keysOf ks with
    | some k => if kvs.length < mx then some (.dT (dput kvs k v)) else none
    | none => none
  | _, _, _ => none
def putOwn (i : Nat) (k v : D) (env : En) : Option En := match env[i]? with
  | some (.own io d) => (putD d k v).map fun d' => env.set i (.own io d')
  | _ => none
theorem IsKs.any {H : Hp} {A : Ax} {k : Key} : ∀ {kvs : List (Key × V)} {ds : List (Key × D)}, IsKs H A kvs ds → (kvs.any fun kv => decide (kv.1 = k)) = ds.any fun kv => decide (kv.1 = k)
  | _, _, .nil => rfl
  | _, _, .cons _ t => by rw [List.any_cons, List.any_cons, IsKs.any t]
theorem IsTs.any {H : Hp} {A : Ax} {k : List Key} : ∀ {kvs : List (List Key × V)} {ds : List (List Key × D)}, IsTs H A kvs ds → (kvs.any fun kv => decide (kv.1 = k)) = ds.any fun kv => decide (kv.1 = k)
  | _, _, .nil => rfl
  | _, _, .cons _ t => by rw [List.any_cons, List.any_cons, IsTs.any t]
theorem IsKs.length {H : Hp} {A : Ax} : ∀ {kvs : List (Key × V)} {ds : List (Key × D)}, IsKs H A kvs ds → kvs.length = ds.length
  | _, _, .nil => rfl
  | _, _, .cons _ t => by rw [List.length_cons, List.length_cons, IsKs.length t]
theorem IsTs.length {H : Hp} {A : Ax} : ∀ {kvs : List (List Key × V)} {ds : List (List Key × D)}, IsTs H A kvs ds → kvs.length = ds.length
  | _, _, .nil => rfl
  | _, _, .cons _ t => by rw [List.length_cons, List.length_cons, IsTs.length t]
theorem IsKs.repl {H : Hp} {A : Ax} {k : Key} {v : V} {d : D} (r : IsD H A v d) : ∀ {kvs : List (Key × V)} {ds : List (Key × D)}, IsKs H A kvs ds → IsKs H A (kvs.map fun kv => if kv.1 = k then (kv.1, v) else kv) (ds.map fun kv => if kv.1 = k then (kv.1, d) else kv)
  | _, _, .nil => .nil
  | _, _, .cons h t => by
    rw [List.map_cons, List.map_cons]
    dsimp only
    split
    · exact .cons r (IsKs.repl r t)
    · exact .cons h (IsKs.repl r t)
theorem IsTs.repl {H : Hp} {A : Ax} {k : List Key} {v : V} {d : D} (r : IsD H A v d) : ∀ {kvs : List (List Key × V)} {ds : List (List Key × D)}, IsTs H A kvs ds → IsTs H A (kvs.map fun kv => if kv.1 = k then (kv.1, v) else kv) (ds.map fun kv => if kv.1 = k then (kv.1, d) else kv)
  | _, _, .nil => .nil
  | _, _, .cons h t => by
    rw [List.map_cons, List.map_cons]
    dsimp only
    split
    · exact .cons r (IsTs.repl r t)
    · exact .cons h (IsTs.repl r t)
theorem IsKs.app {H : Hp} {A : Ax} : ∀ {vs us : List (Key × V)} {ds es : List (Key × D)}, IsKs H A vs ds → IsKs H A us es → IsKs H A (vs ++ us) (ds ++ es)
  | _, _, _, _, .nil, s => s
  | _, _, _, _, .cons h t, s => .cons h (IsKs.app t s)
theorem IsTs.app {H : Hp} {A : Ax} : ∀ {vs us : List (List Key × V)} {ds es : List (List Key × D)}, IsTs H A vs ds → IsTs H A us es → IsTs H A (vs ++ us) (ds ++ es)
  | _, _, _, _, .nil, s => s
  | _, _, _, _, .cons h t, s => .cons h (IsTs.app t s)
theorem IsKs.put {H : Hp} {A : Ax} {k : Key} {v : V} {d : D} (r : IsD H A v d) {kvs : List (Key × V)} {ds : List (Key × D)} (h : IsKs H A kvs ds) : IsKs H A (putK kvs k v) (dput ds k d) := by
  unfold putK dput
  rw [h.any]
  split
  · exact h.repl r
  · exact h.app (.cons r .nil)
theorem IsTs.put {H : Hp} {A : Ax} {k : List Key} {v : V} {d : D} (r : IsD H A v d) {kvs : List (List Key × V)} {ds : List (List Key × D)} (h : IsTs H A kvs ds) : IsTs H A (putK kvs k v) (dput ds k d) := by
  unfold putK dput
  rw [h.any]
  split
  · exact h.repl r
  · exact h.app (.cons r .nil)
/-- o[i] = v of a list or dict -/
def rSetA : TSet := fun o i v H Q => rSetL o i v H Q ∨ ∃ p H', o = .ref p ∧ DPut H p i v H' ∧ Q H'
theorem set_A {X : Cx} (hu : X.A.units + 1 < cLine) : PSet X rSetA := by
  intro pins s σ H o i v ov iv u Q I ro ri rv h
  rcases h with h | ⟨p, H', rfl, g, q⟩
  · exact set_list pins s σ H o i v ov iv u Q I ro ri rv h
  · cases ro
    exact d_setItem hu I g ri rv fun s' I' => ⟨_, I', q⟩
theorem EnvOk.putOwn {F : Fm} {H : Hp} {σ : Sg} {env env' : En} {as : List (Option Addr)} {i : Nat} {k v : D} {x y : V} (E : EnvOk F H σ env as) (ef : putOwn i k v env = some env') (hk : IsC H (Av as F.B) x k) (hv : IsD H (Av as F.B) y v) {Q : Hp → Prop}
    (q : ∀ H', EnvOk F H' σ env' as → Step as H as H' → Q H') : ∃ p, σ[i]? = some (some (.ref p)) ∧ rSetA (.ref p) x y H Q := by
  unfold DL.putOwn at ef
  split at ef
  · rename_i io d e
    obtain ⟨x', o, h1, h2, h3⟩ := E.sl.at e
    cases h3 with
    | own ow =>
      rename_i a
      refine ⟨a, h1, ?_⟩
      have aA : Av as F.B a := Or.inl (at_mem h2)
      have ne : ∀ b, ¬ Av as F.B b → b ≠ a := fun b n z => n (z ▸ aA)
      have kp : ∀ o, Kp H (Av as F.B) (L2.upd H a o) (Av as F.B) := fun o => ⟨rfl, fun x xs e n => by rw [upd_ne (ne x n)]; exact e, fun x xs e n => by rw [upd_ne (ne x n)]; exact e, fun x u e n => by
        rcases e with e | ⟨z, e⟩
        · exact .inl (by rw [upd_ne (ne x n)]; exact e)
        · exact .inr ⟨z, by rw [upd_ne (ne x n)]; exact e⟩, fun _ _ n => n⟩
      cases r : putD d k v with
      | none => rw [r] at ef; cases ef
      | some d' =>
        rw [r] at ef
        cases ef
        unfold putD at r
        split at r
        · rename_i ds kk
          cases rj : ixN ds.length kk with
          | none => rw [rj] at r; cases r
          | some j =>
            rw [rj] at r
            cases r
            obtain ⟨xs, e1, s1⟩ := ow
            obtain ⟨E', S⟩ := E.upd (d' := .lst (ds.set j v)) (o := .lst (xs.set j y)) e h2 rfl ⟨_, upd_same, (s1.set hv j).kp (kp _)⟩
            exact .inl ⟨a, xs, kk, j, rfl, hk.int, e1, by rw [s1.length]; exact rj, q _ E' S⟩
        · rename_i kvs
          split at r
          · rename_i kk rk
            split at r
            · rename_i hl
              cases r
              obtain ⟨xs, e1, s1⟩ := ow
              obtain ⟨E', S⟩ := E.upd (d' := .dK (dput kvs kk v)) (o := .dK (putK xs kk y)) e h2 rfl ⟨_, upd_same, (s1.put hv).kp (kp _)⟩
              exact .inr ⟨a, _, rfl, .inl ⟨xs, kk, e1, keyOf_is hk rk, mx_lt (by rw [s1.length]; exact hl), rfl⟩, q _ E' S⟩
            · cases r
          · cases r
        · rename_i kvs ks
          split at r
          · rename_i kk rk
            split at r
            · rename_i hl
              cases r
              obtain ⟨xs, e1, s1⟩ := ow
              obtain ⟨b, vs, rfl, hb, sv⟩ := hk.tup
              obtain ⟨E', S⟩ := E.upd (d' := .dT (dput kvs kk v)) (o := .dT (putK xs kk y)) e h2 rfl ⟨_, upd_same, (s1.put hv).kp (kp _)⟩
              exact .inr ⟨a, _, rfl, .inr ⟨xs, kk, b, e1, rfl, by rw [hb, keysOf_is sv rk], mx_lt (by rw [s1.length]; exact hl), rfl⟩, q _ E' S⟩
            · cases r
          · cases r
        · cases r
  · cases ef
/-- the target x[k], x an own list or dict -/
def fgSub (i : Nat) (fk : FL) : FG := fun d env => match env[i]? with
  | some (.own _ _) => match fk env with
    | none => none
    | some (l, e1) => match res e1 l with
      | none => none
      | some k => putOwn i k d e1
  | _ => none
section
variable {X : Cx} {pos p : Pos}
theorem dg_sub {i : Nat} {x : Str} {k : Expr} {fk : FL} (hu : X.A.units + 1 < cLine) (hk : PE X k (tL X.K fk)) (hN : X.N[i]? = some x := by rfl) (hv : Vis X.env.scope x := by first | exact Or.inl rfl | exact Or.inr (Or.inl rfl) | exact Or.inr (Or.inr rfl))
    (ha : ∀ v, assign (.Subscript (.Name x p) k pos) X.env v = (do
      let ov ← holding [v] (eval (.Name x p) X.env)
      let iv ← holding [v, ov] (eval k X.env)
      standAt pos
      holding [v, ov, iv] (setItem ov iv v)
      release [v, ov, iv] []) := by intro _; rfl) (hd : (x == ("__debug__" : Str)) = false := by decide)
    (hcd : (x == ("__classdict__" : Str)) = false := by decide) : PG X (.Subscript (.Name x p) k pos) (tG X.K (fgSub i fk) []) := by
  refine PG.weak (pg_sub (pe_var (i := i) hN hv hd hcd) hk (set_A hu) ha) ?_
  rintro v σ H Q ⟨F, env, as, d, env', hK, E, iv, ef, q⟩
  unfold fgSub at ef
  split at ef
  · rename_i io d0 e0
    obtain ⟨x0, o0, h1, h2, h3⟩ := E.sl.at e0
    cases h3 with
    | own ow =>
      cases r1 : fk env with
      | none => rw [r1] at ef; cases ef
      | some p =>
        obtain ⟨l, e1⟩ := p
        simp only [r1] at ef
        cases r2 : res e1 l with
        | none => simp only [r2] at ef; cases ef
        | some kd =>
          simp only [r2] at ef
          refine ⟨_, h1, F, env, as, l, e1, hK, E, r1, fun z H1 as1 E1 S1 i1 => ?_⟩
          obtain ⟨p, hp, w⟩ := E1.putOwn ef (i1.c E1 r2) (iv.st S1) (Q := fun H3 => Q σ H3) fun H' E' S' => q σ H' as1 E' (S1.trans S') fun _ _ => rfl
          rw [h1] at hp
          cases hp
          exact w
  · cases ef
end
end DL
/-! The data layer: statements. -/
namespace DL
open PySem PySem.Spec PyProof.Rows L2

/-- how a statement ends -/
inductive Out where
  | nx (e : En)
  | rt (fr : Bool) (d : D) (e : En)
  | bk (e : En)
  | ct (e : En)
abbrev FS := En → Option Out
/-- what is handed back: data, or a new list or dict -/
def RetOk (F : Fm) (fr : Bool) (H : Hp) (σ : Sg) (e : En) (as : List (Option Addr)) (v : V) (d : D) : Prop :=
  match fr with
  | false => EnvOk F H σ e as ∧ IsD H (Av as F.B) v d
  | true => ∃ a, v = .ref a ∧ F.H0 a = none ∧ EnvOk (F.add a) H σ e as ∧ NewAt H (Av as F.B) a d
def Post (F : Fm) (as : List (Option Addr)) (H : Hp) (X : Ends) : Out → Prop
  | .nx e => ∀ σ' H' as', EnvOk F H' σ' e as' → Step as H as' H' → X.nx σ' H'
  | .bk e => ∀ σ' H' as', EnvOk F H' σ' e as' → Step as H as' H' → X.bk σ' H'
  | .ct e => ∀ σ' H' as', EnvOk F H' σ' e as' → Step as H as' H' → X.ct σ' H'
  | .rt fr d e => ∀ v σ' H' as', RetOk F fr H' σ' e as' v d → Step as H as' H' → X.rt v H'
def tS (K : PySem.W.Frag) (f : FS) : TS := fun X σ H => ∃ F env as o, F.B.K = K ∧ EnvOk F H σ env as ∧ f env = some o ∧ Post F as H X o
theorem PS.weak {X : Cx} {st : Stmt} {t t' : TS} (h : PS X st t) (w : ∀ D σ H, t' D σ H → t D σ H) : PS X st t' := ⟨fun pins s σ H D I q => h.run pins s σ H D I (w D σ H q)⟩
theorem PSs.weak {X : Cx} {st : List Stmt} {t t' : TS} (h : PSs X st t) (w : ∀ D σ H, t' D σ H → t D σ H) : PSs X st t' := ⟨fun pins s σ H D I q => h.run pins s σ H D I (w D σ H q)⟩
theorem Post.later {F : Fm} {as as1 : List (Option Addr)} {H H1 : Hp} {X : Ends} (S : Step as H as1 H1) : ∀ {o : Out}, Post F as H X o → Post F as1 H1 X o
  | .nx _, p => fun σ' H' as' E S' => p σ' H' as' E (S.trans S')
  | .bk _, p => fun σ' H' as' E S' => p σ' H' as' E (S.trans S')
  | .ct _, p => fun σ' H' as' E S' => p σ' H' as' E (S.trans S')
  | .rt _ _ _, p => fun v σ' H' as' E S' => p v σ' H' as' E (S.trans S')

/-! ### blocks -/
def fSkip : FS := fun env => some (.nx env)
def fSeq (f g : FS) : FS := fun env => match f env with
  | some (.nx e) => g e
  | r => r
section
variable {X : Cx} {st : Stmt} {sts : List Stmt} {f g : FS} {pos : Pos}
theorem dss_nil : PSs X [] (tS X.K fSkip) := by
  refine PSs.weak pss_nil ?_
  rintro D σ H ⟨F, env, as, o, hK, E, ef, q⟩
  cases ef
  exact q σ H as E (Step.refl _ _)
theorem dss_cons (h1 : PS X st (tS X.K f)) (h2 : PSs X sts (tS X.K g)) : PSs X (st :: sts) (tS X.K (fSeq f g)) := by
  refine PSs.weak (pss_cons h1 h2) ?_
  rintro D σ H ⟨F, env, as, o, hK, E, ef, q⟩
  unfold fSeq at ef
  split at ef
  · rename_i e1 r1
    exact ⟨F, env, as, _, hK, E, r1, fun σ1 H1 as1 E1 S1 => ⟨F, e1, as1, o, hK, E1, ef, q.later S1⟩⟩
  · rename_i r1
    refine ⟨F, env, as, o, hK, E, ef, ?_⟩
    cases o with
    | nx e => exact absurd ef (r1 e)
    | bk e => exact q
    | ct e => exact q
    | rt fr d e => exact q
theorem dss_one (h1 : PS X st (tS X.K f)) : PSs X [st] (tS X.K f) := pss_one h1
/-- a slot's own list or dict is no longer written, from this statement on -/
def fFrz (i : Nat) (f : FS) : FS := fun env => f (frzE i env)
theorem ds_frz (i : Nat) (h : PS X st (tS X.K f)) : PS X st (tS X.K (fFrz i f)) := by
  refine PS.weak h ?_
  rintro D σ H ⟨F, env, as, o, hK, E, ef, q⟩
  obtain ⟨as', E', S'⟩ := E.frz i
  exact ⟨F, _, as', o, hK, E', ef, q.later S'⟩
theorem ds_pass : PS X (.Pass pos) (tS X.K fSkip) := by
  refine PS.weak ps_pass ?_
  rintro D σ H ⟨F, env, as, o, hK, E, ef, q⟩
  cases ef
  exact q σ H as E (Step.refl _ _)
def fBreak : FS := fun env => some (.bk env)
def fCont : FS := fun env => some (.ct env)
theorem ds_break : PS X (.Break pos) (tS X.K fBreak) := by
  refine PS.weak ps_break ?_
  rintro D σ H ⟨F, env, as, o, hK, E, ef, q⟩
  cases ef
  exact q σ H as E (Step.refl _ _)
theorem ds_cont : PS X (.Continue pos) (tS X.K fCont) := by
  refine PS.weak ps_continue ?_
  rintro D σ H ⟨F, env, as, o, hK, E, ef, q⟩
  cases ef
  exact q σ H as E (Step.refl _ _)
/-- never come to -/
def fNever : FS := fun _ => none
theorem ds_never : PS X st (tS X.K fNever) := by
  refine PS.weak ps_never ?_
  rintro D σ H ⟨F, env, as, o, hK, E, ef, q⟩
  cases ef
def fIf (t : FT) (f g : FS) : FS := fun env => match t env with
  | none => none
  | some (true, e) => f e
  | some (false, e) => g e
theorem ds_if {c : Expr} {a b : List Stmt} {t : FT} (hc : PT X c (tT X.K t)) (ha : PSs X a (tS X.K f)) (hb : PSs X b (tS X.K g)) : PS X (.If c a b pos) (tS X.K (fIf t f g)) := by
  refine PS.weak (ps_if hc ha hb) ?_
  rintro D σ H ⟨F, env, as, o, hK, E, ef, q⟩
  unfold fIf at ef
  cases r : t env with
  | none => rw [r] at ef; cases ef
  | some p =>
    obtain ⟨k, e1⟩ := p
    rw [r] at ef
    refine ⟨F, env, as, k, e1, hK, E, r, fun H1 as1 E1 S1 => ?_⟩
    cases k with
    | true => rw [if_pos rfl]; exact ⟨F, e1, as1, o, hK, E1, ef, q.later S1⟩
    | false => rw [if_neg Bool.false_ne_true]; exact ⟨F, e1, as1, o, hK, E1, ef, q.later S1⟩

/-! ### small statements -/
variable {e : Expr} {fe : FE}
def fDrop (fe : FE) : FS := fun env => (fe env).map fun p => .nx p.2
theorem ds_expr (he : PE X e (tD X.K fe)) (hs : swapsWith e none pos.line X.env = pure false := by rfl) : PS X (.Expr e pos) (tS X.K (fDrop fe)) := by
  refine PS.weak (ps_expr he hs) ?_
  rintro D σ H ⟨F, env, as, o, hK, E, ef, q⟩
  unfold fDrop at ef
  cases r : fe env with
  | none => rw [r] at ef; cases ef
  | some p =>
    rw [r] at ef
    cases ef
    exact ⟨F, env, as, p.1, p.2, hK, E, r, fun v H1 as1 E1 S1 i1 => q σ H1 as1 E1 S1⟩
def fRet (fe : FE) : FS := fun env => (fe env).map fun p => .rt false p.1 p.2
theorem ds_ret (he : PE X e (tD X.K fe)) : PS X (.Return (some e) pos) (tS X.K (fRet fe)) := by
  refine PS.weak (ps_ret he) ?_
  rintro D σ H ⟨F, env, as, o, hK, E, ef, q⟩
  unfold fRet at ef
  cases r : fe env with
  | none => rw [r] at ef; cases ef
  | some p =>
    rw [r] at ef
    cases ef
    exact ⟨F, env, as, p.1, p.2, hK, E, r, fun v H1 as1 E1 S1 i1 => q v σ H1 as1 ⟨E1, i1⟩ S1⟩
def fRetF (fe : FE) : FS := fun env => (fe env).map fun p => .rt true p.1 p.2
theorem EnvOk.old {F : Fm} {H : Hp} {σ : Sg} {env : En} {as : List (Option Addr)} (E : EnvOk F H σ env as) {a : Addr} (h : H a = none) : F.H0 a = none := by
  cases e : F.H0 a with
  | none => rfl
  | some o => exact absurd h (E.dom a (some_ne e))
theorem ds_retF (he : PE X e (tF X.K fe)) : PS X (.Return (some e) pos) (tS X.K (fRetF fe)) := by
  refine PS.weak (ps_ret he) ?_
  rintro D σ H ⟨F, env, as, o, hK, E, ef, q⟩
  unfold fRetF at ef
  cases r : fe env with
  | none => rw [r] at ef; cases ef
  | some p =>
    rw [r] at ef
    cases ef
    exact ⟨F, env, as, p.1, p.2, hK, E, r, fun a H1 as1 E1 S1 n i1 => q _ σ H1 as1 ⟨a, rfl, E.old n, E1, i1⟩ S1⟩
/-- return x, x a list or dict of the def's own -/
def fRetO (i : Nat) : FS := fun env => match env[i]? with
  | some (.own false d) => some (.rt true d (env.set i .un))
  | _ => none
theorem ds_retO (i : Nat) {x : Str} {p : Pos} (hN : X.N[i]? = some x := by rfl) (hv : Vis X.env.scope x := by first | exact Or.inl rfl | exact Or.inr (Or.inl rfl) | exact Or.inr (Or.inr rfl)) (hd : (x == ("__debug__" : Str)) = false := by decide)
    (hcd : (x == ("__classdict__" : Str)) = false := by decide) : PS X (.Return (some (.Name x p)) pos) (tS X.K (fRetO i)) := by
  refine PS.weak (ps_ret (pe_var (i := i) hN hv hd hcd)) ?_
  rintro D σ H ⟨F, env, as, o, hK, E, ef, q⟩
  unfold fRetO at ef
  split at ef
  · rename_i d e
    cases ef
    obtain ⟨x0, o0, h1, h2, h3⟩ := E.sl.at e
    cases h3 with
    | own ow =>
      rename_i a
      refine ⟨_, h1, ?_⟩
      obtain ⟨E', S⟩ := E.put (s' := .un) (x := some (.ref a)) e rfl .un fun _ _ z => nomatch z
      rw [set_self h1] at E'
      have nA : ¬ Av (as.set i none) F.B a := fun z => by
        rcases z with z | z
        · obtain ⟨j, e⟩ := mem_at z
          obtain ⟨e, ne⟩ := at_set_none e
          exact ne (E.nd j i a e h2)
        · exact E.ap a (at_mem h2) z
      have sub : ∀ x, some x ∈ as.set i none ∨ (F.B x ∨ x = a) → some x ∈ as ∨ F.B x := fun x z => by
        rcases z with z | z | z
        · exact .inl (mem_set_none z)
        · exact .inr z
        · exact .inl (z ▸ at_mem h2)
      refine q _ σ H _ ⟨a, rfl, E.fr i a d h2 e, ⟨?_, E'.nd, fun x h z => ?_, fun x h => h.elim (E'.bd x) fun z => z ▸ ow.mu, E'.pin, E'.io, E'.fr, E'.dom⟩, nA, ow.kp (A' := (Av (as.set i none) F.B).add a) (Kp.less (A := Av as F.B) rfl fun x z => ?_) fun _ e => e⟩ S
      · have := SlsOk.set (H := H) (A := Av (as.set i none) (F.add a).B) (x := some (V.ref a)) (s := .un) (o := none) .un i (E.sl.kp (kpAv (as := as) (as' := as.set i none) (B := F.B) (B' := (F.add a).B) rfl sub) fun _ _ _ e => e)
        rw [set_self h1] at this
        exact this
      · rcases z with z | z
        · exact E'.ap x h z
        · exact nA (Or.inl (z ▸ h))
      · rcases z with z | z
        · rcases z with z | z
          · exact Or.inl (mem_set_none z)
          · exact Or.inr z
        · exact Or.inl (z ▸ at_mem h2)
  · cases ef
def fRetN : FS := fun env => some (.rt false .non env)
theorem ds_retN : PS X (.Return none pos) (tS X.K fRetN) := by
  refine PS.weak ps_retN ?_
  rintro D σ H ⟨F, env, as, o, hK, E, ef, q⟩
  cases ef
  exact q _ σ H as ⟨E, .non⟩ (Step.refl _ _)

/-! ### stores -/
theorem Step.setO {as as1 : List (Option Addr)} {H H1 : Hp} (S : Step as H as1 H1) {a : Addr} {i : Nat} (n : H a = none) : Step as H (as1.set i (some a)) H1 := ⟨S.keep, S.dom, fun b z => by
  obtain ⟨j, e⟩ := mem_at z
  rcases at_set_some e with ⟨_, e⟩ | ⟨_, e⟩
  · exact .inr (e ▸ n)
  · exact S.new b (at_mem e)⟩
def fSet (i : Nat) (fe : FE) : FS := fun env => match fe env with
  | none => none
  | some (d, e) => (setE i d e).map .nx
theorem sSet_of {K : PySem.W.Frag} {i : Nat} {fe : FE} {te : TE} {D : Ends} {σ : Sg} {H : Hp} (w : ∀ σ H Q, tD K fe σ H Q → te σ H Q) (h : tS K (fSet i fe) D σ H) : tAsg te (gName i) D σ H := by
  obtain ⟨F, env, as, o, hK, E, ef, q⟩ := h
  unfold fSet at ef
  cases r : fe env with
  | none => rw [r] at ef; cases ef
  | some p =>
    obtain ⟨d, e1⟩ := p
    simp only [r] at ef
    cases r2 : setE i d e1 with
    | none => rw [r2] at ef; cases ef
    | some e2 =>
      rw [r2] at ef
      cases ef
      refine w σ H _ ⟨F, env, as, d, e1, hK, E, r, fun v H1 as1 E1 S1 i1 => ?_⟩
      obtain ⟨E2, S2⟩ := E1.setV r2 i1
      exact q _ H1 _ E2 (S1.trans S2)
theorem ds_set {i : Nat} {x : Str} {pos' : Pos} (hN : X.N.Nodup) (hi : X.N[i]? = some x) (hx : Loc X.env.scope x) (he : PE X e (tD X.K fe)) (hs : swapsWith e (some (.Name x pos')) pos.line X.env = pure false := by rfl) (hf : X.fn x = true ∨ X.env.scope.names.lookup x = some .local := by first | exact .inl rfl | exact .inr rfl | assumption) :
    PS X (.Assign [.Name x pos'] e pos) (tS X.K (fSet i fe)) := PS.weak (ps_set hN hi hx he hs hf) fun _ _ _ h => sSet_of (fun _ _ _ z => z) h
def fSetO (i : Nat) (fe : FE) : FS := fun env => match fe env with
  | none => none
  | some (d, e) => (ownE i d e).map .nx
theorem sSetO_of {K : PySem.W.Frag} {i : Nat} {fe : FE} {te : TE} {D : Ends} {σ : Sg} {H : Hp} (w : ∀ σ H Q, tF K fe σ H Q → te σ H Q) (h : tS K (fSetO i fe) D σ H) : tAsg te (gName i) D σ H := by
  obtain ⟨F, env, as, o, hK, E, ef, q⟩ := h
  unfold fSetO at ef
  cases r : fe env with
  | none => rw [r] at ef; cases ef
  | some p =>
    obtain ⟨d, e1⟩ := p
    simp only [r] at ef
    cases r2 : ownE i d e1 with
    | none => rw [r2] at ef; cases ef
    | some e2 =>
      rw [r2] at ef
      cases ef
      refine w σ H _ ⟨F, env, as, d, e1, hK, E, r, fun a H1 as1 E1 S1 n i1 => ?_⟩
      have E2 := E1.setO r2 i1 (E.old n)
      exact q _ H1 _ E2 (S1.setO n)
theorem ds_setO {i : Nat} {x : Str} {pos' : Pos} (hN : X.N.Nodup) (hi : X.N[i]? = some x) (hx : Loc X.env.scope x) (he : PE X e (tF X.K fe)) (hs : swapsWith e (some (.Name x pos')) pos.line X.env = pure false := by rfl) (hf : X.fn x = true ∨ X.env.scope.names.lookup x = some .local := by first | exact .inl rfl | exact .inr rfl | assumption) :
    PS X (.Assign [.Name x pos'] e pos) (tS X.K (fSetO i fe)) := PS.weak (ps_set hN hi hx he hs hf) fun _ _ _ h => sSetO_of (fun _ _ _ z => z) h
/-- target = e -/
def fAsg (fe : FE) (g : FG) : FS := fun env => match fe env with
  | none => none
  | some (d, e) => (g d e).map .nx
theorem ds_asg {tg : Expr} {g : FG} {vs : List Nat} (he : PE X e (tD X.K fe)) (hg : PG X tg (tG X.K g vs)) (hs : swapsWithSole [tg] e pos.line X.env = pure false := by rfl) (hw : swappedStores [tg] e X.env = pure none := by rfl)
    (h1 : (assignEach [tg] X.env).map (·.2) = [assign tg X.env] := by rfl) : PS X (.Assign [tg] e pos) (tS X.K (fAsg fe g)) := by
  refine PS.weak (ps_asg he hg hs hw h1) ?_
  rintro D σ H ⟨F, env, as, o, hK, E, ef, q⟩
  unfold fAsg at ef
  cases r : fe env with
  | none => rw [r] at ef; cases ef
  | some p =>
    obtain ⟨d, e1⟩ := p
    simp only [r] at ef
    cases r2 : g d e1 with
    | none => rw [r2] at ef; cases ef
    | some e2 =>
      rw [r2] at ef
      cases ef
      exact ⟨F, env, as, d, e1, hK, E, r, fun v H1 as1 E1 S1 i1 => ⟨F, e1, as1, d, e2, hK, E1, i1, r2, fun σ' H' as' E' S' _ => q σ' H' as' E' (S1.trans S')⟩⟩
end

/-! ### several names at once -/
/-- items: data; new lists or dicts -/
inductive ItemsOk (H : Hp) (A : Ax) : List V → List (Bool × D) → List Addr → Prop
  | nil : ItemsOk H A [] [] []
  | val {v : V} {d : D} {vs : List V} {ds : List (Bool × D)} {os : List Addr} : IsD H A v d → ItemsOk H A vs ds os → ItemsOk H A (v :: vs) ((false, d) :: ds) os
  | own {a : Addr} {d : D} {vs : List V} {ds : List (Bool × D)} {os : List Addr} : OwnAt H A a d → ItemsOk H A vs ds os → ItemsOk H A (.ref a :: vs) ((true, d) :: ds) (a :: os)
def Fm.addl (F : Fm) (os : List Addr) : Fm := { F with B := ⟨F.B.K, fun x => F.B x ∨ x ∈ os⟩ }
theorem EnvOk.lessB {F : Fm} {H : Hp} {σ : Sg} {env : En} {as : List (Option Addr)} (E : EnvOk F H σ env as) (B' : Ax) (k : B'.K = F.B.K) (h : ∀ x, B' x → F.B x) : EnvOk { F with B := B' } H σ env as :=
  ⟨E.sl.kp (Kp.less (A := Av as F.B) (A' := Av as B') k fun x z => Or.elim z (fun z => Or.inl z) fun z => Or.inr (h x z)) fun _ _ _ e => e, E.nd, fun x hx z => E.ap x hx (h x z), fun x z => E.bd x (h x z), E.pin, E.io, E.fr, E.dom⟩
theorem ItemsOk.kp {H : Hp} {A A' : Ax} (k : Kp H A H A') {vs : List V} {ds : List (Bool × D)} {os : List Addr} (h : ItemsOk H A vs ds os) : ItemsOk H A' vs ds os := by
  induction h with
  | nil => exact .nil
  | val h _ ih => exact .val (h.kp k) ih
  | own h _ ih => exact .own (h.kp k fun _ e => e) ih
abbrev FM := En → Option (List (Bool × D) × En)
/-- the new ones stand apart, nothing in the slots leads to them -/
def tM (K : PySem.W.Frag) (f : FM) : TA := fun σ H Q => ∃ F env as ds env', F.B.K = K ∧ EnvOk F H σ env as ∧ f env = some (ds, env') ∧
  ∀ vs H' as' os, EnvOk (F.addl os) H' σ env' as' → Step as H as' H' → (∀ a ∈ os, H a = none) → os.Nodup → ItemsOk H' (Av as' (F.addl os).B) vs ds os → Q vs H'
def fmNil : FM := fun env => some ([], env)
def fmVal (f : FE) (r : FM) : FM := fun env => match f env with
  | none => none
  | some (d, e1) => match r e1 with
    | none => none
    | some (ds, e2) => some ((false, d) :: ds, e2)
def fmOwn (f : FE) (r : FM) : FM := fun env => match f env with
  | none => none
  | some (d, e1) => match r e1 with
    | none => none
    | some (ds, e2) => some ((true, d) :: ds, e2)
section
variable {X : Cx} {e : Expr} {es : List Expr} {f : FE} {r : FM}
theorem dm_nil : PA X [] (tM X.K fmNil) := by
  refine PA.weak pa_nil ?_
  rintro σ H Q ⟨F, env, as, l, env', hK, E, ef, q⟩
  cases ef
  exact q [] H as [] (E.lessB _ rfl fun x z => z.elim id fun z => by cases z) (Step.refl _ _) (fun _ h => by cases h) .nil .nil
theorem dm_val (h : PE X e (tD X.K f)) (t : PA X es (tM X.K r)) (hs : starEach (e :: es) X.env = (false, eval e X.env) :: starEach es X.env := by rfl) : PA X (e :: es) (tM X.K (fmVal f r)) := by
  refine PA.weak (pa_cons h t hs) ?_
  rintro σ H Q ⟨F, env, as, l, env', hK, E, ef, q⟩
  unfold fmVal at ef
  cases r1 : f env with
  | none => rw [r1] at ef; cases ef
  | some p =>
    obtain ⟨l1, e1⟩ := p
    simp only [r1] at ef
    cases r2 : r e1 with
    | none => rw [r2] at ef; cases ef
    | some p2 =>
      obtain ⟨ls, e2⟩ := p2
      simp only [r2] at ef
      cases ef
      refine ⟨F, env, as, l1, e1, hK, E, r1, fun v H1 as1 E1 S1 i1 => ⟨F, e1, as1, ls, _, hK, E1, r2, fun vs H2 as2 os E2 S2 n2 nd i2 => q _ _ as2 os E2 (S1.trans S2) (fun a ha => ?_) nd (.val ?_ i2)⟩⟩
      · cases z : H a with
        | none => rfl
        | some o => exact absurd (n2 a ha) (S1.dom a (some_ne z))
      · have k2 := S2.kp (B := F.B)
        have kp : Kp H1 (Av as1 F.B) H2 (Av as2 (F.addl os).B) := ⟨rfl, k2.tp, k2.ls, k2.rd, fun x hx nx z => by
          rcases (show some x ∈ as2 ∨ (F.B x ∨ x ∈ os) from z) with z | z | z
          · rcases S2.new x z with z | z
            · exact nx (Or.inl z)
            · exact hx z
          · exact nx (Or.inr z)
          · exact hx (n2 x z)⟩
        exact i1.kp kp
theorem dm_own (h : PE X e (tF X.K f)) (t : PA X es (tM X.K r)) (hs : starEach (e :: es) X.env = (false, eval e X.env) :: starEach es X.env := by rfl) : PA X (e :: es) (tM X.K (fmOwn f r)) := by
  refine PA.weak (pa_cons h t hs) ?_
  rintro σ H Q ⟨F, env, as, l, env', hK, E, ef, q⟩
  unfold fmOwn at ef
  cases r1 : f env with
  | none => rw [r1] at ef; cases ef
  | some p =>
    obtain ⟨l1, e1⟩ := p
    simp only [r1] at ef
    cases r2 : r e1 with
    | none => rw [r2] at ef; cases ef
    | some p2 =>
      obtain ⟨ls, e2⟩ := p2
      simp only [r2] at ef
      cases ef
      refine ⟨F, env, as, l1, e1, hK, E, r1, fun a H1 as1 E1 S1 n i1 => ⟨F.add a, e1, as1, ls, _, hK, E1, r2, fun vs H2 as2 os E2 S2 n2 nd i2 => q _ _ as2 (a :: os) (E2.lessB _ rfl fun x z => ?_) (S1.trans S2) (fun b hb => ?_) ?_ ?_⟩⟩
      · rcases z with z | z
        · exact .inl (.inl z)
        · rcases List.mem_cons.mp z with z | z
          · exact .inl (.inr z)
          · exact .inr z
      · rcases List.mem_cons.mp hb with hb | hb
        · rw [hb]; exact n
        · cases z : H b with
          | none => rfl
          | some o => exact absurd (n2 b hb) (S1.dom b (some_ne z))
      · refine List.nodup_cons.mpr ⟨fun h => ?_, nd⟩
        obtain ⟨o, e, _⟩ := E1.bd a (.inr rfl)
        exact absurd (n2 a h) (some_ne e)
      · have na : some a ∉ as1 := fun z => E1.ap a z (.inr rfl)
        have cl : ∀ x, ¬ ((Av as1 F.B).add a) x → some x ∉ as1 := fun x nx z => nx (Or.inl (Or.inl z))
        have kp : Kp H1 ((Av as1 F.B).add a) H2 (Av as2 (F.addl (a :: os)).B) := ⟨rfl, fun x xs e nx => S2.keep x _ e (cl x nx), fun x xs e nx => S2.keep x _ e (cl x nx), fun x u e nx => by
          rcases e with e | ⟨o, e⟩
          · exact .inl (S2.keep x _ e (cl x nx))
          · exact .inr ⟨o, S2.keep x _ e (cl x nx)⟩, fun x hx nx z => by
          rcases (show some x ∈ as2 ∨ (F.B x ∨ x ∈ a :: os) from z) with z | z | z
          · rcases S2.new x z with z | z
            · exact nx (Or.inl (Or.inl z))
            · exact hx z
          · exact nx (Or.inl (Or.inr z))
          · rcases List.mem_cons.mp z with z | z
            · exact nx (Or.inr z)
            · exact hx (n2 x z)⟩
        refine .own (i1.o.kp kp fun o e => S2.keep a o e na) ?_
        have kl : Kp H2 (Av as2 ((F.add a).addl os).B) H2 (Av as2 (F.addl (a :: os)).B) := kpAv rfl fun x z => by
          rcases z with z | z | z
          · exact .inl z
          · exact .inr (.inl (.inl z))
          · rcases List.mem_cons.mp z with z | z
            · exact .inr (.inl (.inr z))
            · exact .inr (.inr z)
        exact i2.kp kl
end
def storeM (i : Nat) (p : Bool × D) (env : En) : Option En := if p.1 then ownE i p.2 env else setE i p.2 env
theorem EnvOk.storeV {F : Fm} {H : Hp} {σ : Sg} {env env' : En} {as : List (Option Addr)} {i : Nat} {d : D} {v : V} {vs : List V} {ds : List (Bool × D)} {os : List Addr} (E : EnvOk (F.addl os) H σ env as) (ef : setE i d env = some env')
    (hv : IsD H (Av as (F.addl os).B) v d) (it : ItemsOk H (Av as (F.addl os).B) vs ds os) : EnvOk (F.addl os) H (σ.set i (some v)) env' (as.set i none) ∧ Step as H (as.set i none) H ∧ ItemsOk H (Av (as.set i none) (F.addl os).B) vs ds os := by
  obtain ⟨E', S'⟩ := E.setV ef hv
  exact ⟨E', S', it.kp (kpAv rfl fun a z => z.elim (fun z => Or.inl (mem_set_none z)) Or.inr)⟩
theorem EnvOk.storeO {F : Fm} {H : Hp} {σ : Sg} {env env' : En} {as : List (Option Addr)} {i : Nat} {a : Addr} {d : D} {vs : List V} {ds : List (Bool × D)} {os : List Addr} (E : EnvOk (F.addl (a :: os)) H σ env as) (ef : ownE i d env = some env')
    (hf : F.H0 a = none) (hB : ¬ F.B a) (nd : (a :: os).Nodup) (ow : OwnAt H (Av as (F.addl (a :: os)).B) a d) (it : ItemsOk H (Av as (F.addl (a :: os)).B) vs ds os) :
    EnvOk (F.addl os) H (σ.set i (some (.ref a))) env' (as.set i (some a)) ∧ ItemsOk H (Av (as.set i (some a)) (F.addl os).B) vs ds os := by
  have E1 : EnvOk ((F.addl os).add a) H σ env as := E.lessB _ rfl fun x z => by
    rcases z with (z | z) | z
    · exact .inl z
    · exact .inr (List.mem_cons_of_mem _ z)
    · exact .inr (z ▸ List.mem_cons_self)
  have n : ¬ Av as (F.addl os).B a := fun z => by
    rcases z with z | z | z
    · exact E.ap a z (.inr List.mem_cons_self)
    · exact hB z
    · exact (List.nodup_cons.mp nd).1 z
  have kp : Kp H (Av as (F.addl (a :: os)).B) H ((Av as (F.addl os).B).add a) := Kp.less rfl fun x z => by
    rcases z with (z | z | z) | z
    · exact Or.inl z
    · exact Or.inr (Or.inl z)
    · exact Or.inr (Or.inr (List.mem_cons_of_mem _ z))
    · exact Or.inr (Or.inr (z ▸ List.mem_cons_self))
  have kp3 : Kp H (Av as (F.addl (a :: os)).B) H (Av (as.set i (some a)) (F.addl os).B) := kpAv rfl fun x z => by
    rcases z with z | z | z
    · obtain ⟨j, e⟩ := mem_at z
      rcases at_set_some e with ⟨_, e⟩ | ⟨_, e⟩
      · exact .inr (.inr (e ▸ List.mem_cons_self))
      · exact .inl (at_mem e)
    · exact .inr (.inl z)
    · exact .inr (.inr (List.mem_cons_of_mem _ z))
  exact ⟨E1.setO ef ⟨n, ow.kp kp fun _ e => e⟩ hf, it.kp kp3⟩
theorem ItemsOk.length {H : Hp} {A : Ax} : ∀ {vs : List V} {ds : List (Bool × D)} {os : List Addr}, ItemsOk H A vs ds os → vs.length = ds.length
  | _, _, _, .nil => rfl
  | _, _, _, .val _ t => by rw [List.length_cons, List.length_cons, ItemsOk.length t]
  | _, _, _, .own _ t => by rw [List.length_cons, List.length_cons, ItemsOk.length t]
theorem ItemsOk.inv {H : Hp} {A : Ax} {vs : List V} {p : Bool × D} {ds : List (Bool × D)} {os : List Addr} (h : ItemsOk H A vs (p :: ds) os) :
    (∃ v us, vs = v :: us ∧ p.1 = false ∧ IsD H A v p.2 ∧ ItemsOk H A us ds os) ∨ ∃ a us qs, vs = .ref a :: us ∧ os = a :: qs ∧ p.1 = true ∧ OwnAt H A a p.2 ∧ ItemsOk H A us ds qs := by
  cases h with
  | val h t => exact .inl ⟨_, _, rfl, rfl, h, t⟩
  | own h t => exact .inr ⟨_, _, _, rfl, rfl, rfl, h, t⟩
def storeAll : List Nat → List (Bool × D) → En → Option En
  | i :: is, p :: ps, env => match storeM i p env with
    | none => none
    | some e => storeAll is ps e
  | [], [], env => some env
  | _, _, _ => none
def setAll : Sg → List Nat → List V → Sg
  | σ, i :: is, v :: vs => setAll (σ.set i (some v)) is vs
  | σ, _, _ => σ
theorem store_all {F : Fm} {H : Hp} {env' : En} : ∀ {is : List Nat} {vs : List V} {ds : List (Bool × D)} {os : List Addr} {σ : Sg} {env : En} {as : List (Option Addr)}, EnvOk (F.addl os) H σ env as → ItemsOk H (Av as (F.addl os).B) vs ds os → os.Nodup →
    (∀ a ∈ os, F.H0 a = none ∧ ¬ F.B a) → storeAll is ds env = some env' → ∃ as', EnvOk F H (setAll σ is vs) env' as' ∧ ∀ b, some b ∈ as' → some b ∈ as ∨ b ∈ os
  | [], vs, ds, os, σ, env, as, E, it, _, _, ef => by
    cases ds with
    | cons _ _ => cases ef
    | nil =>
      cases ef
      exact ⟨as, E.lessB F.B rfl fun x z => .inl z, fun b z => .inl z⟩
  | i :: is, vs, ds, os, σ, env, as, E, it, nd, ho, ef => by
    cases ds with
    | nil => cases ef
    | cons p ds =>
      unfold storeAll at ef
      cases r : storeM i p env with
      | none => rw [r] at ef; cases ef
      | some e =>
        rw [r] at ef
        simp only at ef
        obtain ⟨k, d⟩ := p
        rcases it.inv with ⟨v, us, rfl, e1, hv, jt⟩ | ⟨a, us, qs, rfl, rfl, e1, hv, jt⟩
        · cases e1
          obtain ⟨E', S', it'⟩ := E.storeV (show setE i d env = some e from r) hv jt
          obtain ⟨as', E2, h⟩ := store_all E' it' nd ho ef
          exact ⟨as', E2, fun b z => (h b z).imp mem_set_none id⟩
        · cases e1
          obtain ⟨h1, h2⟩ := ho a List.mem_cons_self
          obtain ⟨E', it'⟩ := E.storeO (show ownE i d env = some e from r) h1 h2 nd hv jt
          obtain ⟨as', E2, h⟩ := store_all E' it' (List.nodup_cons.mp nd).2 (fun b hb => ho b (List.mem_cons_of_mem _ hb)) ef
          refine ⟨as', E2, fun b z => ?_⟩
          rcases h b z with z | z
          · obtain ⟨j, e⟩ := mem_at z
            rcases at_set_some e with ⟨_, e⟩ | ⟨_, e⟩
            · exact .inr (e ▸ List.mem_cons_self)
            · exact .inl (at_mem e)
          · exact .inr (List.mem_cons_of_mem _ z)
def fPar (is : List Nat) (fm : FM) : FS := fun env => match fm env with
  | none => none
  | some (ds, e) => (storeAll is ds e).map .nx
theorem sPar_of {K : PySem.W.Frag} {is : List Nat} {fm : FM} {D : Ends} {σ : Sg} {H : Hp} (h : tS K (fPar is fm) D σ H) : tM K fm σ H fun vs H1 => vs.length = is.length ∧ D.nx (setAll σ is vs) H1 := by
  obtain ⟨F, env, as, o, hK, E, ef, q⟩ := h
  unfold fPar at ef
  cases r : fm env with
  | none => rw [r] at ef; cases ef
  | some p =>
    obtain ⟨ds, e1⟩ := p
    simp only [r] at ef
    cases r2 : storeAll is ds e1 with
    | none => rw [r2] at ef; cases ef
    | some e2 =>
      rw [r2] at ef
      cases ef
      refine ⟨F, env, as, ds, e1, hK, E, r, fun vs H1 as1 os E1 S1 n nd it => ⟨?_, ?_⟩⟩
      · have l1 : vs.length = ds.length := it.length
        rw [l1]
        have : ∀ {is : List Nat} {ds : List (Bool × DL.D)} {e1 e2 : En}, storeAll is ds e1 = some e2 → ds.length = is.length := by
          intro is
          induction is with
          | nil => intro ds e1 e2 h; cases ds with
            | nil => rfl
            | cons _ _ => cases h
          | cons i is ih =>
            intro ds e1 e2 h
            cases ds with
            | nil => cases h
            | cons p ds =>
              unfold storeAll at h
              split at h
              · cases h
              · rw [List.length_cons, List.length_cons, ih h]
        exact this r2
      · obtain ⟨as', E2, hb⟩ := store_all E1 it nd (fun a ha => ⟨E.old (n a ha), fun z => by
          obtain ⟨o, e, _⟩ := E.bd a z
          rw [n a ha] at e
          cases e⟩) r2
        refine q _ H1 as' E2 ⟨S1.keep, S1.dom, fun b z => ?_⟩
        rcases hb b z with z | z
        · exact S1.new b z
        · exact .inr (n b z)
theorem tM_mono {K : PySem.W.Frag} {fm : FM} {σ : Sg} {H : Hp} {Q Q' : List V → Hp → Prop} (h : tM K fm σ H Q) (w : ∀ vs H, Q vs H → Q' vs H) : tM K fm σ H Q' := by
  obtain ⟨F, env, as, o, env', hK, E, ef, q⟩ := h
  exact ⟨F, env, as, o, env', hK, E, ef, fun vs H' as' os a b c d e => w _ _ (q vs H' as' os a b c d e)⟩
section
variable {X : Cx}
theorem ds_par {i j : Nat} {x y : Str} {a b : Expr} {fm : FM} {px py pt pos : Pos} {kt k2 pt2} (hc : X.calm = true) (hN : X.N.Nodup) (hi : X.N[i]? = some x) (hj : X.N[j]? = some y) (hij : i ≠ j)
    (hx : X.env.scope.names.lookup x = some .local) (hy : X.env.scope.names.lookup y = some .local) (ha : PA X [a, b] (tM X.K fm))
    (hw : swappedStores [.Tuple [.Name x px, .Name y py] kt pt] (.Tuple [a, b] k2 pt2) X.env = pure (some [x, y]))
    (hs : swapsWithSole [.Tuple [.Name x px, .Name y py] kt pt] (.Tuple [a, b] k2 pt2) pos.line X.env = pure false := by rfl) :
    PS X (.Assign [.Tuple [.Name x px, .Name y py] kt pt] (.Tuple [a, b] k2 pt2) pos) (tS X.K (fPar [i, j] fm)) := by
  refine PS.weak (ps_par hc hN hi hj hij hx hy ha hw hs) fun D σ H h => tM_mono (sPar_of h) fun vs H1 q => ?_
  obtain ⟨hl, q⟩ := q
  match vs, hl with
  | [v, w], _ => exact ⟨v, w, rfl, q⟩
theorem ds_par3 {i j l : Nat} {x y z : Str} {a b c : Expr} {fm : FM} {px py pz pt pos : Pos} {kt k2 pt2} (hc : X.calm = true) (hN : X.N.Nodup) (hi : X.N[i]? = some x) (hj : X.N[j]? = some y) (hl : X.N[l]? = some z) (hij : i ≠ j) (hil : i ≠ l) (hjl : j ≠ l)
    (hx : X.env.scope.names.lookup x = some .local) (hy : X.env.scope.names.lookup y = some .local) (hz : X.env.scope.names.lookup z = some .local) (ha : PA X [a, b, c] (tM X.K fm))
    (hw : swappedStores [.Tuple [.Name x px, .Name y py, .Name z pz] kt pt] (.Tuple [a, b, c] k2 pt2) X.env = pure (some [x, y, z]))
    (hs : swapsWithSole [.Tuple [.Name x px, .Name y py, .Name z pz] kt pt] (.Tuple [a, b, c] k2 pt2) pos.line X.env = pure false := by rfl) :
    PS X (.Assign [.Tuple [.Name x px, .Name y py, .Name z pz] kt pt] (.Tuple [a, b, c] k2 pt2) pos) (tS X.K (fPar [i, j, l] fm)) := by
  refine PS.weak (ps_par3 hc hN hi hj hl hij hil hjl hx hy hz ha hw hs) fun D σ H h => tM_mono (sPar_of h) fun vs H1 q => ?_
  obtain ⟨hl, q⟩ := q
  match vs, hl with
  | [v, w, u], _ => exact ⟨v, w, u, rfl, q⟩
end

/-! ### while, for -/
/-- at most n turns -/
def fWhile : Nat → FT → FS → FS
  | 0, _, _ => fun _ => none
  | n + 1, t, f => fun env => match t env with
    | none => none
    | some (false, e) => some (.nx e)
    | some (true, e) => match f e with
      | none => none
      | some (.nx e1) => fWhile n t f e1
      | some (.ct e1) => fWhile n t f e1
      | some (.bk e1) => some (.nx e1)
      | some (.rt fr d e1) => some (.rt fr d e1)
section
variable {X : Cx} {pos : Pos}
theorem ds_while (n : Nat) {c : Expr} {body : List Stmt} {t : FT} {f : FS} (hp : PassesOwn (model X.prog X.w) X.A X.env X.xe) (hc : PT X c (tT X.K t)) (hb : PSs X body (tS X.K f)) : PS X (.While c body [] pos) (tS X.K (fWhile n t f)) := by
  refine PS.weak (ps_while hp hc hb) ?_
  rintro D σ H ⟨F, env, as, o, hK, E, ef, q⟩
  refine ⟨fun m σ H => ∃ env as, EnvOk F H σ env as ∧ fWhile m t f env = some o ∧ Post F as H D o, ⟨n, env, as, E, ef, q⟩, ?_⟩
  rintro m σ H ⟨env, as, E, ef, q⟩
  cases m with
  | zero => cases ef
  | succ m =>
    unfold fWhile at ef
    cases r : t env with
    | none => rw [r] at ef; cases ef
    | some p =>
      obtain ⟨k, e1⟩ := p
      rw [r] at ef
      refine ⟨F, env, as, k, e1, hK, E, r, fun H1 as1 E1 S1 => ?_⟩
      cases k with
      | false =>
        cases ef
        rw [if_neg Bool.false_ne_true]
        exact q σ H1 as1 E1 S1
      | true =>
        rw [if_pos rfl]
        simp only at ef
        refine ⟨fun σ' H' => ∃ env as, EnvOk F H' σ' env as ∧ fWhile m t f env = some o ∧ Post F as H' D o, fun σ' H' z => ⟨m, Nat.lt_succ_self m, z⟩, ?_⟩
        cases r2 : f e1 with
        | none => rw [r2] at ef; cases ef
        | some o1 =>
          rw [r2] at ef
          refine ⟨F, e1, as1, o1, hK, E1, r2, ?_⟩
          cases o1 with
          | nx e2 => exact fun σ' H' as' E' S' => ⟨e2, as', E', ef, q.later (S1.trans S')⟩
          | ct e2 => exact fun σ' H' as' E' S' => ⟨e2, as', E', ef, q.later (S1.trans S')⟩
          | bk e2 =>
            cases ef
            exact fun σ' H' as' E' S' => q σ' H' as' E' (S1.trans S')
          | rt fr d e2 =>
            cases ef
            exact fun v σ' H' as' E' S' => q v σ' H' as' E' (S1.trans S')
/-- item by item -/
def loopD (g : FG) (f : FS) : List D → FS
  | [] => fun env => some (.nx env)
  | d :: ds => fun env => match g d env with
    | none => none
    | some e => match f e with
      | none => none
      | some (.nx e1) => loopD g f ds e1
      | some (.ct e1) => loopD g f ds e1
      | some (.bk e1) => some (.nx e1)
      | some (.rt fr d e1) => some (.rt fr d e1)
def fFor (fi : FI) (g : FG) (f : FS) : FS := fun env => match fi env with
  | none => none
  | some (ds, e) => loopD g f ds e
theorem for_of {K : PySem.W.Frag} {fi : FI} {g : FG} {vs : List Nat} {f : FS} {D : Ends} {σ : Sg} {H : Hp} (h : tS K (fFor fi g f) D σ H) : tFor (tI K fi) (tG K g vs) (tS K f) D σ H := by
  obtain ⟨F, env, as, o, hK, E, ef, q⟩ := h
  unfold fFor at ef
  cases r : fi env with
  | none => rw [r] at ef; cases ef
  | some p =>
    obtain ⟨ds, e0⟩ := p
    simp only [r] at ef
    refine ⟨F, env, as, ds, e0, hK, E, r, fun J H0 as0 E0 S0 it => ?_⟩
    refine ⟨fun i m σ H => m = ds.length - i ∧ ∃ env as, EnvOk F H σ env as ∧ Step as0 H0 as H ∧ loopD g f (ds.drop i) env = some o ∧ Post F as H D o, ⟨_, rfl, e0, as0, E0, Step.refl _ _, ef, q.later S0⟩, ?_⟩
    rintro i m σ H ⟨rfl, env, as, E, S, ef, q⟩
    obtain ⟨go, stop⟩ := it i H (Av as F.B) S.kx E.mu
    by_cases hi : i < ds.length
    · have hd : ds[i]? = some ds[i] := List.getElem?_eq_getElem hi
      rw [List.drop_eq_getElem_cons hi] at ef
      unfold loopD at ef
      obtain ⟨g1, yl⟩ := go _ hd
      refine .inr ⟨g1, fun σ' H' => ∃ env as, EnvOk F H' σ' env as ∧ Step as0 H0 as H' ∧ loopD g f (ds.drop (i + 1)) env = some o ∧ Post F as H' D o, fun σ' H' z => ⟨_, by omega, rfl, z⟩, fun x H' y => ?_⟩
      obtain ⟨gr, ix⟩ := yl x H' y
      cases r1 : g ds[i] env with
      | none => rw [r1] at ef; cases ef
      | some e1 =>
        simp only [r1] at ef
        have S1 := gr.step as
        refine ⟨F, env, as, _, e1, hK, E.gr gr, ix, r1, fun σ2 H2 as2 E2 S2 _ => ?_⟩
        cases r2 : f e1 with
        | none => rw [r2] at ef; cases ef
        | some o1 =>
          rw [r2] at ef
          have S3 := (S.trans S1).trans S2
          refine ⟨F, e1, as2, o1, hK, E2, r2, ?_⟩
          cases o1 with
          | nx e2 => exact fun σ' H' as' E' S' => ⟨e2, as', E', S3.trans S', ef, q.later ((S1.trans S2).trans S')⟩
          | ct e2 => exact fun σ' H' as' E' S' => ⟨e2, as', E', S3.trans S', ef, q.later ((S1.trans S2).trans S')⟩
          | bk e2 =>
            cases ef
            exact fun σ' H' as' E' S' => q σ' H' as' E' ((S1.trans S2).trans S')
          | rt fr d e2 =>
            cases ef
            exact fun v σ' H' as' E' S' => q v σ' H' as' E' ((S1.trans S2).trans S')
    · have e : ds.drop i = [] := List.drop_eq_nil_of_le (by omega)
      rw [e] at ef
      cases ef
      exact .inl ⟨stop (by omega), q σ H as E (Step.refl _ _)⟩
theorem ds_for {tg iter : Expr} {body : List Stmt} {fi : FI} {g : FG} {vs : List Nat} {f : FS} (hp : PassesOwn (model X.prog X.w) X.A X.env X.xe) (hc : X.calm = true) (hi : PI X tg iter (tI X.K fi)) (hg : PG X tg (tG X.K g vs)) (hb : PSs X body (tS X.K f))
    (hs : ∀ x, foldedSetIterable iter X.env x = pure x := by intro _; rfl) : PS X (.For tg iter body [] pos) (tS X.K (fFor fi g f)) := PS.weak (ps_for hp hc hi hg hb hs) fun _ _ _ h => for_of h
end
end DL
/-! The data layer: methods of lists and dicts. -/
namespace DL
open PySem PySem.Spec PyProof.Rows L2

theorem EnvOk.kpUpd {F : Fm} {H : Hp} {σ : Sg} {env : En} {as : List (Option Addr)} (E : EnvOk F H σ env as) {a : Addr} {i : Nat} (ha : as[i]? = some (some a)) (o : HO) : Kp H (Av as F.B) (L2.upd H a o) (Av as F.B) := by
  have ne : ∀ b, ¬ Av as F.B b → b ≠ a := fun b n z => n (z ▸ Or.inl (at_mem ha))
  refine ⟨rfl, fun x xs e n => ?_, fun x xs e n => ?_, fun x u e n => ?_, fun _ _ n => n⟩
  · rw [upd_ne (ne x n)]; exact e
  · rw [upd_ne (ne x n)]; exact e
  · rcases e with e | ⟨z, e⟩
    · exact .inl (by rw [upd_ne (ne x n)]; exact e)
    · exact .inr ⟨z, by rw [upd_ne (ne x n)]; exact e⟩
/-- an own list -/
def lstAt (i : Nat) (env : En) : Option (Bool × List D) := match env[i]? with
  | some (.own io (.lst ds)) => some (io, ds)
  | _ => none
theorem lstAt_is {i : Nat} {env : En} {io : Bool} {ds : List D} (h : lstAt i env = some (io, ds)) : env[i]? = some (.own io (.lst ds)) := by
  unfold lstAt at h
  split at h
  · rename_i e; cases h; exact e
  · cases h
theorem EnvOk.lst {F : Fm} {H : Hp} {σ : Sg} {env : En} {as : List (Option Addr)} (E : EnvOk F H σ env as) {i : Nat} {io : Bool} {ds : List D} (h : lstAt i env = some (io, ds)) :
    ∃ a xs, σ[i]? = some (some (.ref a)) ∧ as[i]? = some (some a) ∧ H a = some (.lst xs) ∧ IsDs H (Av as F.B) xs ds := by
  obtain ⟨x, o, h1, h2, h3⟩ := E.sl.at (lstAt_is h)
  cases h3 with
  | own ow =>
    obtain ⟨xs, e, s⟩ := ow
    exact ⟨_, xs, h1, h2, e, s⟩
theorem EnvOk.setL {F : Fm} {H : Hp} {σ : Sg} {env : En} {as : List (Option Addr)} (E : EnvOk F H σ env as) {i : Nat} {io : Bool} {ds es : List D} (h : lstAt i env = some (io, ds)) {a : Addr} (ha : as[i]? = some (some a)) {ys : List V} (s : IsDs H (Av as F.B) ys es) :
    EnvOk F (L2.upd H a (.lst ys)) σ (env.set i (.own io (.lst es))) as ∧ Step as H as (L2.upd H a (.lst ys)) :=
  E.upd (lstAt_is h) ha rfl ⟨ys, upd_same, s.kp (E.kpUpd ha _)⟩
/-- x.append(e) -/
def fAppend (i : Nat) (fa : FA) : FE := fun env => match lstAt i env with
  | none => none
  | some _ => match fa env with
    | some ([d], e) => match lstAt i e with
      | some (io, ds) => if ds.length < mx then some (.non, e.set i (.own io (.lst (ds ++ [d])))) else none
      | none => none
    | _ => none
/-- x.extend(e) -/
def fExtend (i : Nat) (fa : FA) : FE := fun env => match lstAt i env with
  | none => none
  | some _ => match fa env with
    | some ([.lst es], e) => match lstAt i e with
      | some (io, ds) => if ds.length + es.length ≤ mx then some (.non, e.set i (.own io (.lst (ds ++ es)))) else none
      | none => none
    | _ => none
/-- x.pop() -/
def fPop (i : Nat) : FE := fun env => match lstAt i env with
  | some (io, ds) => match ds[ds.length - 1]? with
    | some d => some (d, env.set i (.own io (.lst ds.dropLast)))
    | none => none
  | none => none
/-- x.pop(e) -/
def fPopAt (i : Nat) (fa : FA) : FE := fun env => match lstAt i env with
  | none => none
  | some _ => match fa env with
    | some ([.int k], e) => match lstAt i e with
      | some (io, ds) => if -(2 ^ 63) ≤ k ∧ k < 2 ^ 63 then match ixN ds.length k with
        | some j => match ds[j]? with
          | some d => some (d, e.set i (.own io (.lst (ds.eraseIdx j))))
          | none => none
        | none => none else none
      | none => none
    | _ => none
section
variable {X : Cx} {e : Expr} {es : List Expr} {pos apos p : Pos} {i : Nat} {x : Str} {fa : FA}
theorem slot_ref {F : Fm} {H H' : Hp} {σ : Sg} {env env' : En} {as as' : List (Option Addr)} {io io' : Bool} {ds es : List D} (E : EnvOk F H σ env as) (E' : EnvOk F H' σ env' as') (h : lstAt i env = some (io, ds)) (h' : lstAt i env' = some (io', es)) :
    ∃ a xs ys, σ[i]? = some (some (.ref a)) ∧ H a = some (.lst xs) ∧ as'[i]? = some (some a) ∧ H' a = some (.lst ys) ∧ IsDs H' (Av as' F.B) ys es := by
  obtain ⟨a, xs, h1, _, h3, _⟩ := E.lst h
  obtain ⟨b, ys, k1, k2, k3, k4⟩ := E'.lst h'
  rw [h1] at k1
  cases k1
  exact ⟨a, xs, ys, h1, h3, k2, k3, k4⟩
theorem de_append (h : PE X e (tBM X.K "list" rAppend (tVar i) (tA X.K fa))) : PE X e (tD X.K (fAppend i fa)) := by
  refine PE.weak h ?_
  rintro σ H Q ⟨F, env, as, d, env', hK, E, ef, q⟩
  unfold fAppend at ef
  split at ef
  · cases ef
  · rename_i p r0
    obtain ⟨io0, es0⟩ := p
    split at ef
    · rename_i d0 e1 r1
      split at ef
      · rename_i io ds r2
        split at ef
        · rename_i hl
          cases ef
          obtain ⟨a, xs, h1, _, h3, _⟩ := E.lst r0
          refine ⟨_, h1, .inl ⟨rfl, _, SqL.of h3⟩, F, env, as, _, e1, hK, E, r1, fun vs H1 as1 E1 S1 i1 => ?_⟩
          obtain ⟨b, xs0, ys, k1, _, k3, k4, k5⟩ := slot_ref E E1 r0 r2
          rw [h1] at k1
          cases k1
          cases i1 with
          | cons i1 t =>
            cases t
            obtain ⟨E2, S2⟩ := E1.setL r2 k3 (k5.snoc i1)
            exact ⟨_, ys, _, rfl, rfl, k4, mx_lt (by rw [k5.length]; exact hl), q _ _ _ E2 (S1.trans S2) .non⟩
        · cases ef
      · cases ef
    · cases ef
theorem de_extend (h : PE X e (tBM X.K "list" rExtend (tVar i) (tA X.K fa))) : PE X e (tD X.K (fExtend i fa)) := by
  refine PE.weak h ?_
  rintro σ H Q ⟨F, env, as, d, env', hK, E, ef, q⟩
  unfold fExtend at ef
  split at ef
  · cases ef
  · rename_i p r0
    obtain ⟨io0, es0⟩ := p
    split at ef
    · rename_i zs e1 r1
      split at ef
      · rename_i io ds r2
        split at ef
        · rename_i hl
          cases ef
          obtain ⟨a, xs, h1, _, h3, _⟩ := E.lst r0
          refine ⟨_, h1, .inl ⟨rfl, _, SqL.of h3⟩, F, env, as, _, e1, hK, E, r1, fun vs H1 as1 E1 S1 i1 => ?_⟩
          obtain ⟨b, xs0, ys, k1, _, k3, k4, k5⟩ := slot_ref E E1 r0 r2
          rw [h1] at k1
          cases k1
          cases i1 with
          | cons i1 t =>
            cases t
            cases i1 with
            | lst j1 j2 j3 =>
              obtain ⟨E2, S2⟩ := E1.setL r2 k3 (k5.append j3)
              exact ⟨_, _, ys, _, rfl, rfl, k4, j1, mx_line (by rw [k5.length, j3.length]; exact hl), q _ _ _ E2 (S1.trans S2) .non⟩
        · cases ef
      · cases ef
    · cases ef
theorem de_pop (h : PE X e (tBM0 X.K "list" rPop (tVar i))) : PE X e (tD X.K (fPop i)) := by
  refine PE.weak h ?_
  rintro σ H Q ⟨F, env, as, d, env', hK, E, ef, q⟩
  unfold fPop at ef
  split at ef
  · rename_i io ds r2
    split at ef
    · rename_i d0 r3
      cases ef
      obtain ⟨a, xs, h1, h2, h3, h4⟩ := E.lst r2
      obtain ⟨v, e1, i1⟩ := h4.get r3
      obtain ⟨E2, S2⟩ := E.setL r2 h2 h4.dropLast
      exact ⟨_, h1, .inl ⟨rfl, _, SqL.of h3⟩, a, xs, v, rfl, rfl, h3, by rw [h4.length]; exact e1, q _ _ _ E2 S2 (i1.kp (E.kpUpd h2 _))⟩
    · cases ef
  · cases ef
theorem de_popAt (h : PE X e (tBM X.K "list" rPopAt (tVar i) (tA X.K fa))) : PE X e (tD X.K (fPopAt i fa)) := by
  refine PE.weak h ?_
  rintro σ H Q ⟨F, env, as, d, env', hK, E, ef, q⟩
  unfold fPopAt at ef
  split at ef
  · cases ef
  · rename_i p r0
    obtain ⟨io0, es0⟩ := p
    split at ef
    · rename_i k e1 r1
      split at ef
      · rename_i io ds r2
        split at ef
        · rename_i hl
          split at ef
          · rename_i j rj
            split at ef
            · rename_i d0 rd
              cases ef
              obtain ⟨a, xs, h1, _, h3, _⟩ := E.lst r0
              refine ⟨_, h1, .inl ⟨rfl, _, SqL.of h3⟩, F, env, as, _, e1, hK, E, r1, fun vs H1 as1 E1 S1 i1 => ?_⟩
              obtain ⟨b, xs0, ys, k1, _, k3, k4, k5⟩ := slot_ref E E1 r0 r2
              rw [h1] at k1
              cases k1
              cases i1 with
              | cons i1 t =>
                cases t
                cases i1
                obtain ⟨v, ev, iv⟩ := k5.get rd
                obtain ⟨E2, S2⟩ := E1.setL r2 k3 (k5.eraseIdx j)
                exact ⟨_, ys, k, j, v, rfl, rfl, k4, hl.1, hl.2, by rw [k5.length]; exact (ixN_seq rj).1, ev, q _ _ _ E2 (S1.trans S2) (iv.kp (E1.kpUpd k3 _))⟩
            · cases ef
          · cases ef
        · cases ef
      · cases ef
    · cases ef

/-! ### d.get(k), d.get(k, x) -/
def isDct : D → Bool
  | .dK _ => true
  | .dT _ => true
  | _ => false
def fGet1 (fo fk : FL) : FE := fun env => match fo env with
  | none => none
  | some (lo, e1) => match res e1 lo with
    | none => none
    | some d1 => if isDct d1 then match fk e1 with
      | none => none
      | some (lk, e2) => match res e2 lo, res e2 lk with
        | some d, some k => (dAt d k).map fun r => (r.getD .non, e2)
        | _, _ => none else none
def fGet2 (fo fk : FL) (fx : FE) : FE := fun env => match fo env with
  | none => none
  | some (lo, e1) => match res e1 lo with
    | none => none
    | some d1 => if isDct d1 then match fk e1 with
      | none => none
      | some (lk, e2) => match fx e2 with
        | none => none
        | some (x, e3) => match res e3 lo, res e3 lk with
          | some d, some k => (dAt d k).map fun r => (r.getD x, e3)
          | _, _ => none else none
theorem isDct_is {H : Hp} {A : Ax} {v : V} {d : D} (h : IsC H A v d) (e : isDct d = true) : ∃ a, v = .ref a ∧ L2.IsD H a := by
  unfold isDct at e
  split at e
  · obtain ⟨a, kvs, rfl, h1, _⟩ := h.dK
    exact ⟨a, rfl, .inl ⟨kvs, h1⟩⟩
  · obtain ⟨a, kvs, rfl, h1, _⟩ := h.dT
    exact ⟨a, rfl, .inr ⟨kvs, h1⟩⟩
  · cases e
theorem OpD.getD {H : Hp} {A : Ax} {o : Option V} {r : Option D} (h : OpD H A o r) {v : V} {d : D} (hd : DL.IsD H A v d) : DL.IsD H A (o.getD v) (r.getD d) := by
  cases h with
  | none => exact hd
  | some h => exact h
variable {fo fk : FL} {fx : FE}
theorem de_get1 (h : PE X e (tDGet1 (tL X.K fo) (tL X.K fk))) : PE X e (tD X.K (fGet1 fo fk)) := by
  refine PE.weak h ?_
  rintro σ H Q ⟨F, env, as, d, env', hK, E, ef, q⟩
  unfold fGet1 at ef
  split at ef
  · cases ef
  · rename_i lo e1 r1
    split at ef
    · cases ef
    · rename_i d1 r2
      split at ef
      · rename_i hd
        split at ef
        · cases ef
        · rename_i lk e2 r3
          split at ef
          · rename_i dd kk r4 r5
            cases r6 : dAt dd kk with
            | none => rw [r6] at ef; cases ef
            | some r =>
              rw [r6] at ef
              cases ef
              refine ⟨F, env, as, lo, e1, hK, E, r1, fun v H1 as1 E1 S1 i1 => ?_⟩
              obtain ⟨a, rfl, h1⟩ := isDct_is (i1.c E1 r2) hd
              refine ⟨a, rfl, h1, F, e1, as1, lk, _, hK, E1, r3, fun u H2 as2 E2 S2 i2 => ?_⟩
              obtain ⟨p, o, ep, g, od⟩ := dAt_get ((i1.st S2).c E2 r4) (i2.c E2 r5) r6
              cases ep
              exact ⟨o, g, q _ H2 as2 E2 (S1.trans S2) (od.getD .non)⟩
          · cases ef
      · cases ef
theorem de_get2 (h : PE X e (tDGet2 (tL X.K fo) (tL X.K fk) (tD X.K fx))) : PE X e (tD X.K (fGet2 fo fk fx)) := by
  refine PE.weak h ?_
  rintro σ H Q ⟨F, env, as, d, env', hK, E, ef, q⟩
  unfold fGet2 at ef
  split at ef
  · cases ef
  · rename_i lo e1 r1
    split at ef
    · cases ef
    · rename_i d1 r2
      split at ef
      · rename_i hd
        split at ef
        · cases ef
        · rename_i lk e2 r3
          split at ef
          · cases ef
          · rename_i x e3 r7
            split at ef
            · rename_i dd kk r4 r5
              cases r6 : dAt dd kk with
              | none => rw [r6] at ef; cases ef
              | some r =>
                rw [r6] at ef
                cases ef
                refine ⟨F, env, as, lo, e1, hK, E, r1, fun v H1 as1 E1 S1 i1 => ?_⟩
                obtain ⟨a, rfl, h1⟩ := isDct_is (i1.c E1 r2) hd
                refine ⟨a, rfl, h1, F, e1, as1, lk, e2, hK, E1, r3, fun u H2 as2 E2 S2 i2 => ⟨F, e2, as2, x, _, hK, E2, r7, fun w H3 as3 E3 S3 i3 => ?_⟩⟩
                obtain ⟨p, o, ep, g, od⟩ := dAt_get (((i1.st S2).st S3).c E3 r4) ((i2.st S3).c E3 r5) r6
                cases ep
                exact ⟨o, g, q _ H3 as3 E3 ((S1.trans S2).trans S3) (od.getD i3)⟩
            · cases ef
      · cases ef
end
end DL
/-! The data layer: defs, their calls; nothing is being shown (A.guards = some []). -/
namespace DL
open PySem PySem.Spec PyProof.Rows L2

/-- a def keeps its promise wherever no repr is under way -/
structure FnG (P : Program) (w : World) (K : PySem.W.Frag) (mg : Str → Option Value) (base : Heap) (CX : CXT) (k : Nat) (f : Addr) (fd : FuncData) (ps : List Str) (sp : Sp) : Prop where
  n : ∀ vs H Q E, sp vs H Q E → vs.length = ps.length
  go : ∀ (A : Around) (out : List Env) (s : Shared) (H : Hp) (as : Args) (us : List Value) (vs : List V) (Q : VK) (E : XK), A.guards = some [] → Room k A → Env0 P w K mg base A out s H → BindsTo s fd as (ps.zip us) → Vals vs us →
    sp vs H Q E → codeAny (model P w) A (.call (.ref f) as) (CR CX out P w H s Q E) s
theorem FnG.mono {P : Program} {w : World} {K : PySem.W.Frag} {mg : Str → Option Value} {base : Heap} {CX : CXT} {j k : Nat} {f : Addr} {fd : FuncData} {ps : List Str} {sp : Sp} (F : FnG P w K mg base CX j f fd ps sp) (h : j ≤ k) : FnG P w K mg base CX k f fd ps sp :=
  ⟨F.n, fun A out s H as us vs Q E hg hr => F.go A out s H as us vs Q E hg (hr.mono h)⟩
theorem FnG.of {P : Program} {w : World} {K : PySem.W.Frag} {mg : Str → Option Value} {base : Heap} {CX : CXT} {k : Nat} {f : Addr} {fd : FuncData} {ps : List Str} {sp : Sp} (F : FnOk P w K mg base CX k f fd ps sp) : FnG P w K mg base CX k f fd ps sp :=
  ⟨F.len, fun A out s H as us vs Q E _ hr => F.run A out s H as us vs Q E hr⟩

section
variable {X : Cx} {CX : CXT} {k : Nat} {f : Addr} {fd : FuncData} {ps : List Str} {sp : Sp} {E : XK} {x : Str} {p pos : Pos} {e : Expr} {es : List Expr} {t : TA}
/-- the call of a def of the module, every parameter given -/
theorem pe_callG (F : FnG X.prog X.w X.K X.mg X.base CX k f fd ps sp) (hg : X.A.guards = some []) (hr : Room k X.A) (gl : Gl X x) (hm : X.mg x = some (.ref f)) (hk : PySem.W.keepIn X.K (.ref f) = true) (hb : Binds X.K fd ps []) (hx : Passes CX X E)
    (ha : PA X (e :: es) t) (hdb : (x == ("__debug__" : Str)) = false := by decide) (he : starEach (e :: es) X.env = (false, eval e X.env) :: starEach es X.env := by rfl) (hpl : (backTo pos (starEach es X.env)).any (·.1) = false := by rfl) :
    PE X (.Call (.Name x p) (e :: es) [] pos) (fun σ H Q => t σ H fun vs H1 => sp vs H1 Q E) := by
  constructor
  intro pins s σ H Q I h
  refine wpAny_Call_Name_kw (ld_glob I gl hm (PySem.W.callWith_K (h₀ := X.base) I.ok.mod.kin hk ?_ he hpl) hdb)
  refine thn (ha.run pos pins s σ H _ I h) fun us s1 ⟨vs, H1, I1, r, q⟩ => ⟨I1.kIn, ?_⟩
  have lu : us.length = ps.length := by rw [← r.length]; exact F.n _ _ _ _ q
  have hb' := hb s1 us I1.kIn (by rw [List.append_nil]; exact lu)
  rw [List.append_nil] at hb'
  refine wpAny_call (codeAny_mono (F.go X.A X.stack s1 H1 ⟨us, []⟩ us vs Q E hg hr I1.env0 hb' r q) fun z s' hz => ?_)
  match z, hz with
  | .ok (.ret u), hz => exact I1.after hz
  | .error y, hz => exact hx pins σ H1 s1 y s' I1 hz
end

/-- a def of the text keeps the promise if its body does -/
theorem Fun.okG {P : Program} {w : World} {K : PySem.W.Frag} {mg : Str → Option Value} {base : Heap} {x qual : Str} {st : Stmt} {f : Addr} {fd : FuncData} {N ps : List Str} {k : Nat} {sp : Sp} (F : Fun K x qual st f fd) (S : FnScope N ps (defScope st)) (len : ∀ vs H Q E, sp vs H Q E → vs.length = ps.length)
    (hbody : ∀ (cdv : Value) (A : Around) (out : List Env) (s : Shared) (H : Hp) (vs : List V) (Q : VK) (E : XK), A.guards = some [] → Room k (A.deeper (envOfC qual (defScope st) s.heap.objs.size f cdv)) → sp vs H Q E →
      ∃ t, PSs (cxOf CX0 P w K mg base N qual (defScope st) f cdv A out s H E).nox (defBody st) t ∧ t { nx := fun _ H' => Q .non H', rt := Q } (start N vs) H) : FnG P w K mg base CX0 (k + 1) f fd ps sp := by
  obtain ⟨oc, od, kV, doc, pm, an, cdv, ct, osl, rfl, lk, hcd⟩ := F.ex
  refine ⟨len, fun A out s H as us vs Q E hg hr e0 hb r hsp => ?_⟩
  have KX : K.In s.heap := e0.mod.kin.keeps fun b o e => (e0.bs b o e).1
  have lim : s.heap.NoLimit := e0.mod.nolimit.keeps fun b o e => (e0.bs b o e).1
  have kinds : ∀ y ∈ ps.zip us, (defScope st).names.lookup y.1 = some .local ∨ ((defScope st).names.lookup y.1 = some .cell ∧ ((cellsFrom (s.heap.objs.size + 1) (defScope st).names []).lookup y.1).isSome = true) := by
    rintro ⟨z, v⟩ hy
    exact (S.par z (List.of_mem_zip hy).1).imp id fun q => ⟨q, PySem.W.cellsFrom_some _ _ _ (.inl q)⟩
  refine codeAny_call_function hr.depth (KX _ _ lk) rfl S.co S.gen rfl (PySem.W.codeRec_of KX hcd) (hb _ _ _ _ ?_)
  refine wpAny_newFunctionEnv_cells S.kind kinds fun env he s1 y => ?_
  subst he
  refine ⟨lim.keeps y.toInCall.keep, codeAny_func ?_⟩
  obtain ⟨t, ht, hq⟩ := hbody cdv A out s H vs Q E hg (hr.deeper _) hsp
  have I := inv_start (CX := CX0) (P := P) (w := w) (qual := qual) (f := f) (cd := cdv) (E := E) S hr.hd e0 (len _ _ _ _ hsp) r y
  refine wpAny_mono (ht.nox.run [] s1 (start N vs) H _ I hq) (fun fl s' hs => ?_) fun _ _ hs => hs
  have fin : ∀ {σ' : Sg} {H' : Hp} {v : V} {u : Value}, Inv (cxOf CX0 P w K mg base N qual (defScope st) f cdv A out s H E) [] σ' H' s' → RelV v u → Q v H' → CE out P w H s Q u s' := by
    intro σ' H' v u J rv q
    exact ⟨v, H', J.os, J.bare, J.base, J.hok, rv, q⟩
  cases fl with
  | next =>
    obtain ⟨σ', H', J, q⟩ := hs
    exact fin (v := V.non) (u := Value.none) J rfl q
  | ret u =>
    obtain ⟨v, σ', H', J, rv, q⟩ := hs
    exact fin J rv q
  | cont => exact (let ⟨_, _, _, q⟩ := hs; q : False).elim
  | brk => exact (let ⟨_, _, _, q⟩ := hs; q : False).elim
theorem deeper_guards (A : Around) (env : Env) : (A.deeper env).guards = A.guards := rfl
end DL
/-! The data layer: the promise of a def by data. -/
namespace DL
open PySem PySem.Spec PyProof.Rows L2

/-- what a def makes of its arguments' data: new (a list or dict that nothing else leads to); the data; what its written arguments are behind it -/
abbrev Fn := List D → Option (Bool × D × List D)
inductive ArgsOk (H : Hp) (A : Ax) : List V → List Bool → List D → List (Option Addr) → Prop
  | nil : ArgsOk H A [] [] [] []
  | val {v : V} {d : D} {vs : List V} {ms : List Bool} {ds : List D} {as : List (Option Addr)} : IsD H A v d → ArgsOk H A vs ms ds as → ArgsOk H A (v :: vs) (false :: ms) (d :: ds) (none :: as)
  | io {a : Addr} {d : D} {vs : List V} {ms : List Bool} {ds : List D} {as : List (Option Addr)} : OwnAt H A a d → ArgsOk H A vs ms ds as → ArgsOk H A (.ref a :: vs) (true :: ms) (d :: ds) (some a :: as)
def OutsOk (H : Hp) (A : Ax) (as : List (Option Addr)) (outs : List D) : Prop := ∀ (i : Nat) (a : Addr), as[i]? = some (some a) → ∃ d, outs[i]? = some d ∧ OwnAt H A a d
def RetOkS (H : Hp) (B : Ax) (as : List (Option Addr)) (H' : Hp) (v : V) (outs : List D) (r : D) : Bool → Prop
  | false => OutsOk H' (Av as B) as outs ∧ IsD H' (Av as B) v r
  | true => ∃ a, v = .ref a ∧ H a = none ∧ OutsOk H' ((Av as B).add a) as outs ∧ NewAt H' (Av as B) a r
/-- ms: which parameters are written -/
def spD (K : PySem.W.Frag) (ms : List Bool) (f : Fn) : Sp := fun vs H Q _ => ∃ (B : Ax) (ds : List D) (as : List (Option Addr)) (fr : Bool) (r : D) (outs : List D), B.K = K ∧ ArgsOk H (Av as B) vs ms ds as ∧
  (∀ (i j : Nat) (a : Addr), as[i]? = some (some a) → as[j]? = some (some a) → i = j) ∧ (∀ a, some a ∈ as → ¬ B a) ∧ (∀ a, B a → ∃ o, H a = some o ∧ isMu o = true) ∧ f ds = some (fr, r, outs) ∧
  ∀ v H', (∀ b o, H b = some o → some b ∉ as → H' b = some o) → (∀ b, H b ≠ none → H' b ≠ none) → RetOkS H B as H' v outs r fr → Q v H'
theorem ArgsOk.len {H : Hp} {A : Ax} {vs : List V} {ms : List Bool} {ds : List D} {as : List (Option Addr)} (h : ArgsOk H A vs ms ds as) : vs.length = ms.length ∧ ds.length = ms.length ∧ as.length = ms.length := by
  induction h with
  | nil => exact ⟨rfl, rfl, rfl⟩
  | val _ _ ih => obtain ⟨a, b, c⟩ := ih; exact ⟨by simp [a], by simp [b], by simp [c]⟩
  | io _ _ ih => obtain ⟨a, b, c⟩ := ih; exact ⟨by simp [a], by simp [b], by simp [c]⟩

/-! ### the slots at a def's entry -/
def entryE : List Bool → List D → En
  | false :: ms, d :: ds => .val d :: entryE ms ds
  | true :: ms, d :: ds => .own true d :: entryE ms ds
  | _, _ => []
/-- the arguments' slots, then n more -/
def env0 (ms : List Bool) (ds : List D) (n : Nat) : En := entryE ms ds ++ List.replicate n .un
theorem SlsOk.app {H : Hp} {A : Ax} : ∀ {σ σ' : Sg} {env env' : En} {as as' : List (Option Addr)}, SlsOk H A σ env as → SlsOk H A σ' env' as' → SlsOk H A (σ ++ σ') (env ++ env') (as ++ as')
  | _, _, _, _, _, _, .nil, t => t
  | _, _, _, _, _, _, .cons h s, t => .cons h (SlsOk.app s t)
theorem slsOk_un {H : Hp} {A : Ax} : ∀ n : Nat, SlsOk H A (List.replicate n none) (List.replicate n .un) (List.replicate n none)
  | 0 => .nil
  | n + 1 => .cons .un (slsOk_un n)
theorem ArgsOk.sls {H : Hp} {A : Ax} {vs : List V} {ms : List Bool} {ds : List D} {as : List (Option Addr)} (h : ArgsOk H A vs ms ds as) : SlsOk H A (vs.map some) (entryE ms ds) as := by
  induction h with
  | nil => exact .nil
  | val h _ ih => exact .cons (.val h) ih
  | io h _ ih => exact .cons (.own h) ih
/-- the places of the written ones -/
def pinsOf : Nat → List (Option Addr) → List (Nat × Addr)
  | _, [] => []
  | i, some a :: as => (i, a) :: pinsOf (i + 1) as
  | i, none :: as => pinsOf (i + 1) as
theorem mem_pinsOf {as : List (Option Addr)} : ∀ {i : Nat} {p : Nat × Addr}, p ∈ pinsOf i as ↔ i ≤ p.1 ∧ as[p.1 - i]? = some (some p.2) := by
  induction as with
  | nil => intro i p; simp [pinsOf]
  | cons o as ih =>
    intro i p
    have step : ∀ {p : Nat × Addr}, (i + 1 ≤ p.1 ∧ as[p.1 - (i + 1)]? = some (some p.2)) ↔ (i ≤ p.1 ∧ p.1 ≠ i ∧ (o :: as)[p.1 - i]? = some (some p.2)) := by
      intro p
      constructor
      · rintro ⟨h1, h2⟩
        refine ⟨by omega, by omega, ?_⟩
        rw [show p.1 - i = (p.1 - (i + 1)) + 1 by omega, List.getElem?_cons_succ]
        exact h2
      · rintro ⟨h1, h2, h3⟩
        refine ⟨by omega, ?_⟩
        rw [show p.1 - i = (p.1 - (i + 1)) + 1 by omega, List.getElem?_cons_succ] at h3
        exact h3
    cases o with
    | none =>
      show p ∈ pinsOf (i + 1) as ↔ _
      rw [ih, step]
      constructor
      · rintro ⟨h1, h2, h3⟩; exact ⟨h1, h3⟩
      · rintro ⟨h1, h3⟩
        refine ⟨h1, fun e => ?_, h3⟩
        rw [e, Nat.sub_self] at h3
        simp at h3
    | some a =>
      show p ∈ (i, a) :: pinsOf (i + 1) as ↔ _
      rw [List.mem_cons, ih, step]
      constructor
      · rintro (h | ⟨h1, h2, h3⟩)
        · subst h; simp
        · exact ⟨h1, h3⟩
      · rintro ⟨h1, h3⟩
        by_cases e : p.1 = i
        · left
          rw [e, Nat.sub_self] at h3
          simp at h3
          obtain ⟨p1, p2⟩ := p
          simp at e h3
          rw [e, h3]
        · exact .inr ⟨h1, e, h3⟩
theorem entry_io {H : Hp} {A : Ax} {vs : List V} {ms : List Bool} {ds : List D} {as : List (Option Addr)} (h : ArgsOk H A vs ms ds as) : ∀ i : Nat, (∀ d, (entryE ms ds)[i]? = some (.own true d) → ∃ a, as[i]? = some (some a)) ∧ (∀ d, (entryE ms ds)[i]? ≠ some (.own false d)) ∧ ∀ a, as[i]? = some (some a) → ∃ d, (entryE ms ds)[i]? = some (.own true d) := by
  induction h with
  | nil => intro i; simp [entryE]
  | val h _ ih =>
    intro i
    cases i with
    | zero => simp [entryE]
    | succ i => simpa [entryE] using ih i
  | io h _ ih =>
    intro i
    cases i with
    | zero => simp [entryE]
    | succ i => simpa [entryE] using ih i
/-- the def's frame at its entry -/
def fmOf (B : Ax) (as : List (Option Addr)) (H : Hp) : Fm := ⟨B, pinsOf 0 as, H⟩
theorem envOk_start {H : Hp} {B : Ax} {vs : List V} {ms : List Bool} {ds : List D} {as : List (Option Addr)} {N : List Str} (n : Nat) (hN : N.length = ms.length + n) (h : ArgsOk H (Av as B) vs ms ds as)
    (nd : ∀ (i j : Nat) (a : Addr), as[i]? = some (some a) → as[j]? = some (some a) → i = j) (ap : ∀ a, some a ∈ as → ¬ B a) (bd : ∀ a, B a → ∃ o, H a = some o ∧ isMu o = true) :
    EnvOk (fmOf B as H) H (L2.start N vs) (env0 ms ds n) (as ++ List.replicate n none) := by
  obtain ⟨l1, l2, l3⟩ := h.len
  have at' : ∀ (i : Nat) (a : Addr), (as ++ List.replicate n none)[i]? = some (some a) → as[i]? = some (some a) := fun i a e => by
    by_cases hi : i < as.length
    · rw [List.getElem?_append_left hi] at e; exact e
    · rw [List.getElem?_append_right (by omega), List.getElem?_replicate] at e
      split at e <;> cases e
  have lE : (entryE ms ds).length = as.length := by rw [l3]; exact (h.sls.len.1.symm.trans (by rw [List.length_map])).trans l1
  have ex : ∀ (i : Nat) (s : Sl), s ≠ .un → (env0 ms ds n)[i]? = some s → (entryE ms ds)[i]? = some s := fun i s hs e => by
    unfold env0 at e
    by_cases hi : i < (entryE ms ds).length
    · rw [List.getElem?_append_left hi] at e; exact e
    · rw [List.getElem?_append_right (by omega), List.getElem?_replicate] at e
      split at e
      · cases e; exact absurd rfl hs
      · cases e
  have sub : ∀ x, (some x ∈ as ++ List.replicate n none ∨ B x) → some x ∈ as ∨ B x := fun x z => z.imp (fun z => (List.mem_append.mp z).elim id fun z => by rw [List.mem_replicate] at z; cases z.2) id
  refine ⟨?_, fun i j a h1 h2 => nd i j a (at' i a h1) (at' j a h2), fun a z => ap a ((List.mem_append.mp z).elim id fun z => by rw [List.mem_replicate] at z; cases z.2), bd, fun p hp => ?_, fun i d e => ?_, fun i a d e1 e2 => ?_, fun a e => e⟩
  · have s := h.sls.kp (kpAv (as := as) (as' := as ++ List.replicate n none) (B := B) (B' := B) rfl sub) fun _ _ _ e => e
    unfold L2.start env0
    rw [show N.length - vs.length = n by omega]
    exact s.app (slsOk_un n)
  · obtain ⟨_, e⟩ := mem_pinsOf.mp hp
    rw [Nat.sub_zero] at e
    have hi := (List.getElem?_eq_some_iff.mp e).1
    obtain ⟨d, e2⟩ := (entry_io h p.1).2.2 _ e
    refine ⟨by rw [List.getElem?_append_left hi]; exact e, d, ?_⟩
    unfold env0
    rw [List.getElem?_append_left (by omega)]
    exact e2
  · obtain ⟨a, e2⟩ := (entry_io h i).1 d (ex i (.own true d) (fun z => nomatch z) e)
    exact ⟨a, mem_pinsOf.mpr ⟨Nat.zero_le _, by simpa using e2⟩⟩
  · exact absurd (ex i (.own false d) (fun z => nomatch z) e2) ((entry_io h i).2.1 d)

/-! ### what a body makes of the arguments -/
def dOf : Sl → D
  | .own _ d => d
  | .val d => d
  | .un => .non
/-- n: how many slots beside the parameters -/
def runD (ms : List Bool) (n : Nat) (f : FS) : Fn := fun ds => if ds.length = ms.length then match f (env0 ms ds n) with
  | some (.rt fr d e) => some (fr, d, e.map dOf)
  | some (.nx e) => some (false, .non, e.map dOf)
  | _ => none else none
theorem outsOk_of {F : Fm} {H : Hp} {σ : Sg} {e : En} {as' : List (Option Addr)} {B : Ax} {as : List (Option Addr)} {H0 : Hp} (hF : F.P = pinsOf 0 as) (E : EnvOk F H σ e as') {A : Ax} (k : Kp H (Av as' F.B) H A) : OutsOk H A as (e.map dOf) := by
  intro i a ha
  obtain ⟨e1, d, e2⟩ := E.pin (i, a) (by rw [hF]; exact mem_pinsOf.mpr ⟨Nat.zero_le _, by simpa using ha⟩)
  obtain ⟨x, o, h1, h2, h3⟩ := E.sl.at e2
  have e1' : as'[i]? = some (some a) := e1
  rw [e1'] at h2
  cases h2
  cases h3 with
  | own ow => exact ⟨d, by rw [List.getElem?_map, e2]; rfl, ow.kp k fun _ z => z⟩
abbrev Xd (P : Program) (w : World) (K : PySem.W.Frag) (mg : Str → Option Value) (base : Heap) (N : List Str) (qual : Str) (st : Stmt) (fa : Addr) (cdv : Value) (A : Around) (out : List Env) (s : Shared) (H : Hp) (E : XK) : Cx := (cxOf CX0 P w K mg base N qual (defScope st) fa cdv A out s H E).nox
theorem okD {P : Program} {w : World} {K : PySem.W.Frag} {mg : Str → Option Value} {base : Heap} {x qual : Str} {st : Stmt} {fa : Addr} {fd : FuncData} {N ps : List Str} {k n : Nat} {ms : List Bool} {f : FS} (F : Fun K x qual st fa fd) (S : FnScope N ps (defScope st)) (hm : ms.length = ps.length) (hn : N.length = ms.length + n)
    (body : ∀ (cdv : Value) (A : Around) (out : List Env) (s : Shared) (H : Hp) (E : XK), A.guards = some [] → Room k (Xd P w K mg base N qual st fa cdv A out s H E).A → PSs (Xd P w K mg base N qual st fa cdv A out s H E) (defBody st) (tS K f)) :
    FnG P w K mg base CX0 (k + 1) fa fd ps (spD K ms (runD ms n f)) := by
  refine Fun.okG F S (fun vs H Q E h => ?_) fun cdv A out s H vs Q E hg hr h => ?_
  · obtain ⟨B, ds, as, fr, r, outs, hK, h1, _⟩ := h
    exact h1.len.1.trans hm
  · obtain ⟨B, ds, as, fr, r, outs, hK, h1, nd, ap, bd, hf, q⟩ := h
    refine ⟨_, body cdv A out s H E hg hr, ?_⟩
    have E0 := envOk_start (N := N) n hn h1 nd ap bd
    unfold runD at hf
    rw [if_pos h1.len.2.1] at hf
    -- a heap behind the body, told at the entry
    have tell : ∀ {as' : List (Option Addr)} {H' : Hp}, Step (as ++ List.replicate n none) H as' H' → (∀ b o, H b = some o → some b ∉ as → H' b = some o) := fun S b o e nb => S.keep b o e fun z => nb ((List.mem_append.mp z).elim id fun z => by rw [List.mem_replicate] at z; cases z.2)
    have fin : ∀ {as' : List (Option Addr)} {H' : Hp} {σ' : Sg} {e : En}, EnvOk (fmOf B as H) H' σ' e as' → Kp H' (Av as' B) H' (Av as B) := fun {as' H' σ' e} E => kpAv rfl fun z hz => hz.imp (fun hz => by
      obtain ⟨j, e⟩ := mem_at hz
      exact at_mem (E.pin (j, z) (mem_pinsOf.mpr ⟨Nat.zero_le _, by simpa using e⟩)).1) id
    cases r1 : f (env0 ms ds n) with
    | none => rw [r1] at hf; cases hf
    | some o =>
      rw [r1] at hf
      refine ⟨fmOf B as H, _, _, o, hK, E0, r1, ?_⟩
      cases o with
      | bk e => cases hf
      | ct e => cases hf
      | nx e =>
        cases hf
        exact fun σ' H' as' E' S' => q .non H' (tell S') S'.dom ⟨outsOk_of (B := B) (H0 := H) rfl E' (fin E'), .non⟩
      | rt fr' d e =>
        cases hf
        intro v σ' H' as' R S'
        cases fr with
        | false => exact q v H' (tell S') S'.dom ⟨outsOk_of (B := B) (H0 := H) rfl R.1 (fin R.1), R.2.kp (fin R.1)⟩
        | true =>
          obtain ⟨a, rfl, h0, E', nw⟩ := R
          have k2 : Kp H' ((Av as' B).add a) H' ((Av as B).add a) := Kp.less rfl fun z hz => hz.imp (fun hz => hz.imp (fun hz => by
            obtain ⟨j, e⟩ := mem_at hz
            exact at_mem (E'.pin (j, z) (mem_pinsOf.mpr ⟨Nat.zero_le _, by simpa using e⟩)).1) id) id
          have k3 : Kp H' (Av as' (B.add a)) H' ((Av as B).add a) := Kp.less rfl fun z hz => by
            rcases hz with (hz | hz) | hz
            · obtain ⟨j, e⟩ := mem_at hz
              exact Or.inl (at_mem (E'.pin (j, z) (mem_pinsOf.mpr ⟨Nat.zero_le _, by simpa using e⟩)).1)
            · exact Or.inr (Or.inl hz)
            · exact Or.inr (Or.inr hz)
          refine q _ H' (tell S') S'.dom ⟨a, rfl, h0, outsOk_of (B := B) (H0 := H) rfl E' k3, ?_, nw.o.kp k2 fun _ z => z⟩
          intro z
          rcases z with z | z
          · obtain ⟨j, e⟩ := mem_at z
            exact nw.n (Or.inl (at_mem (E'.pin (j, a) (mem_pinsOf.mpr ⟨Nat.zero_le _, by simpa using e⟩)).1))
          · exact nw.n (Or.inr z)
end DL
/-! The data layer: calls of defs. -/
namespace DL
open PySem PySem.Spec PyProof.Rows L2

theorem SlsOk.mk' {H : Hp} {A : Ax} : ∀ {σ : Sg} {env : En} {as : List (Option Addr)}, σ.length = env.length → as.length = env.length → (∀ (i : Nat) x s o, σ[i]? = some x → env[i]? = some s → as[i]? = some o → SlOk H A x s o) → SlsOk H A σ env as
  | [], [], [], _, _, _ => .nil
  | x :: σ, s :: env, o :: as, h1, h2, h => .cons (h 0 x s o rfl rfl rfl) (SlsOk.mk' (by simpa using h1) (by simpa using h2) fun i x s o a b c => h (i + 1) x s o (by simpa using a) (by simpa using b) (by simpa using c))
  | [], _ :: _, _, h1, _, _ => by simp at h1
  | _ :: _, [], _, h1, _, _ => by simp at h1
  | [], [], _ :: _, _, h2, _ => by simp at h2
  | _ :: _, _ :: _, [], _, h2, _ => by simp at h2

def argOf (m : Bool) (l : LV) (env : En) : Option D := match m, l with
  | false, .inr d => some d
  | false, .inl i => match env[i]? with
    | some (.val d) => some d
    | _ => none
  | true, .inl i => match env[i]? with
    | some (.own _ d) => some d
    | _ => none
  | true, .inr _ => none
def argsOf : List Bool → List LV → En → Option (List D)
  | [], [], _ => some []
  | m :: ms, l :: ls, env => match argOf m l env, argsOf ms ls env with
    | some d, some ds => some (d :: ds)
    | _, _ => none
  | _, _, _ => none
def iosOf : List Bool → List LV → List Nat
  | true :: ms, .inl i :: ls => i :: iosOf ms ls
  | _ :: ms, _ :: ls => iosOf ms ls
  | _, _ => []
def putOut (i : Nat) (o : D) (env : En) : En := match env[i]? with
  | some (.own io _) => env.set i (.own io o)
  | _ => env
def putOuts : List Bool → List LV → List D → En → En
  | true :: ms, .inl i :: ls, o :: os, env => putOuts ms ls os (putOut i o env)
  | _ :: ms, _ :: ls, _ :: os, env => putOuts ms ls os env
  | _, _, _, env => env
def casOf (as : List (Option Addr)) : List Bool → List LV → List (Option Addr)
  | true :: ms, .inl i :: ls => (as[i]?).join :: casOf as ms ls
  | _ :: ms, _ :: ls => none :: casOf as ms ls
  | _, _ => []
def fCall (ms : List Bool) (f : Fn) (fs : FLs) : FE := fun env => match fs env with
  | none => none
  | some (ls, e) => match argsOf ms ls e with
    | none => none
    | some ds => if (iosOf ms ls).Nodup then match f ds with
      | none => none
      | some (_, r, outs) => some (r, putOuts ms ls outs e) else none
/-- .. whose result is new -/
def fCallF (ms : List Bool) (f : Fn) (fs : FLs) : FE := fun env => match fs env with
  | none => none
  | some (ls, e) => match argsOf ms ls e with
    | none => none
    | some ds => if (iosOf ms ls).Nodup then match f ds with
      | some (true, r, outs) => some (r, putOuts ms ls outs e)
      | _ => none else none

section
variable {F : Fm} {H H' : Hp} {σ : Sg} {env : En} {as : List (Option Addr)}
theorem putOut_len (i : Nat) (o : D) (env : En) : (putOut i o env).length = env.length := by
  unfold putOut
  split
  · rw [List.length_set]
  · rfl
theorem putOuts_len : ∀ (ms : List Bool) (ls : List LV) (os : List D) (env : En), (putOuts ms ls os env).length = env.length := by
  intro ms
  induction ms with
  | nil => intro ls os env; simp [putOuts]
  | cons m ms ih =>
    intro ls os env
    cases ls with
    | nil => cases m <;> simp [putOuts]
    | cons l ls =>
      cases os with
      | nil => cases m <;> cases l <;> simp [putOuts]
      | cons o os =>
        cases m with
        | false => show (putOuts ms ls os env).length = _; exact ih _ _ _
        | true =>
          cases l with
          | inl i => show (putOuts ms ls os (putOut i o env)).length = _; rw [ih, putOut_len]
          | inr d => show (putOuts ms ls os env).length = _; exact ih _ _ _
theorem putOut_ne {i j : Nat} {o : D} (h : j ≠ i) : (putOut i o env)[j]? = env[j]? := by
  unfold putOut
  split
  · exact at_set_ne h
  · rfl
theorem putOut_self {i : Nat} {o d : D} {io : Bool} (h : env[i]? = some (.own io d)) : (putOut i o env)[i]? = some (.own io o) := by
  unfold putOut
  rw [h]
  exact List.getElem?_set_self (List.getElem?_eq_some_iff.mp h).1
theorem putOuts_ne {i : Nat} : ∀ {ms : List Bool} {ls : List LV} {os : List D} {env : En}, i ∉ iosOf ms ls → (putOuts ms ls os env)[i]? = env[i]? := by
  intro ms
  induction ms with
  | nil => intro ls os env _; simp [putOuts]
  | cons m ms ih =>
    intro ls os env h
    cases ls with
    | nil => cases m <;> simp [putOuts]
    | cons l ls =>
      cases os with
      | nil => cases m <;> cases l <;> simp [putOuts]
      | cons o os =>
        cases m with
        | false => exact ih (os := os) (env := env) (by cases l <;> simpa [iosOf] using h)
        | true =>
          cases l with
          | inl j =>
            simp only [iosOf, List.mem_cons, not_or] at h
            show (putOuts ms ls os (putOut j o env))[i]? = _
            rw [ih h.2, putOut_ne h.1]
          | inr d => exact ih (os := os) (env := env) (by simpa [iosOf] using h)
theorem mem_ios {i : Nat} : ∀ {ms : List Bool} {ls : List LV}, i ∈ iosOf ms ls ↔ ∃ k : Nat, ms[k]? = some true ∧ ls[k]? = some (.inl i)
  | [], ls => by simp [iosOf]
  | m :: ms, [] => by cases m <;> simp [iosOf]
  | m :: ms, l :: ls => by
    have ih := mem_ios (i := i) (ms := ms) (ls := ls)
    have step : (∃ k : Nat, (m :: ms)[k]? = some true ∧ (l :: ls)[k]? = some (.inl i)) ↔ (m = true ∧ l = .inl i) ∨ ∃ k : Nat, ms[k]? = some true ∧ ls[k]? = some (.inl i) := by
      constructor
      · rintro ⟨k, h1, h2⟩
        cases k with
        | zero => simp at h1 h2; exact .inl ⟨h1, h2⟩
        | succ k => exact .inr ⟨k, by simpa using h1, by simpa using h2⟩
      · rintro (⟨h1, h2⟩ | ⟨k, h1, h2⟩)
        · exact ⟨0, by simp [h1], by simp [h2]⟩
        · exact ⟨k + 1, by simpa using h1, by simpa using h2⟩
    rw [step, ← ih]
    cases m with
    | false => simp [iosOf]
    | true => cases l with
      | inr d => simp [iosOf]
      | inl j =>
        simp only [iosOf, List.mem_cons, Sum.inl.injEq, true_and]
        exact ⟨fun h => h.imp (fun e => e.symm) id, fun h => h.imp (fun e => e.symm) id⟩
theorem putOuts_at {i : Nat} {io : Bool} {o : D} : ∀ {ms : List Bool} {ls : List LV} {os : List D} {env : En} {k : Nat} {d : D}, (iosOf ms ls).Nodup → ms[k]? = some true → ls[k]? = some (.inl i) → os[k]? = some o → env[i]? = some (.own io d) →
    (putOuts ms ls os env)[i]? = some (.own io o) := by
  intro ms
  induction ms with
  | nil => intro ls os env k d _ h; simp at h
  | cons m ms ih =>
    intro ls os env k d nd h1 h2 h3 h4
    cases ls with
    | nil => simp at h2
    | cons l ls =>
      cases os with
      | nil => simp at h3
      | cons o' os =>
        cases k with
        | zero =>
          simp at h1 h2 h3
          subst h1 h2 h3
          simp only [iosOf, List.nodup_cons] at nd
          show (putOuts ms ls os (putOut i o' env))[i]? = _
          rw [putOuts_ne nd.1]
          exact putOut_self h4
        | succ k =>
          simp only [List.getElem?_cons_succ] at h1 h2 h3
          have key : (iosOf ms ls).Nodup → ∀ env : En, env[i]? = some (.own io d) → (putOuts ms ls os env)[i]? = some (.own io o) := fun nd env h => ih nd h1 h2 h3 h
          cases m with
          | false => exact key (by cases l <;> simpa [iosOf] using nd) env h4
          | true =>
            cases l with
            | inr d => exact key (by simpa [iosOf] using nd) env h4
            | inl j =>
              simp only [iosOf, List.nodup_cons] at nd
              have hm : i ∈ iosOf ms ls := mem_ios.mpr ⟨k, h1, h2⟩
              refine key nd.2 (putOut j o' env) ?_
              rw [putOut_ne (show i ≠ j from fun e => nd.1 (by rw [← e]; exact hm))]
              exact h4
theorem casOf_at {k : Nat} {a : Addr} : ∀ {ms : List Bool} {ls : List LV}, (casOf as ms ls)[k]? = some (some a) → ∃ i : Nat, ms[k]? = some true ∧ ls[k]? = some (.inl i) ∧ as[i]? = some (some a) := by
  intro ms
  induction ms generalizing k with
  | nil => intro ls h; cases ls <;> simp [casOf] at h
  | cons m ms ih =>
    intro ls h
    cases ls with
    | nil => cases m <;> simp [casOf] at h
    | cons l ls =>
      cases k with
      | zero =>
        cases m with
        | false => cases l <;> simp [casOf] at h
        | true => cases l with
          | inr d => simp [casOf] at h
          | inl i =>
            simp [casOf] at h
            refine ⟨i, rfl, rfl, ?_⟩
            cases e : as[i]? with
            | none => rw [e] at h; cases h
            | some o => rw [e] at h; simp at h; rw [h]
      | succ k =>
        have e : (casOf as (m :: ms) (l :: ls))[k + 1]? = (casOf as ms ls)[k]? := by
          cases m with
          | false => cases l <;> rfl
          | true => cases l <;> rfl
        rw [e] at h
        obtain ⟨i, h1, h2, h3⟩ := ih h
        exact ⟨i, by simpa using h1, by simpa using h2, h3⟩
theorem at_casOf {k i : Nat} {a : Addr} : ∀ {ms : List Bool} {ls : List LV}, ms[k]? = some true → ls[k]? = some (.inl i) → as[i]? = some (some a) → (casOf as ms ls)[k]? = some (some a) := by
  intro ms
  induction ms generalizing k with
  | nil => intro ls h; simp at h
  | cons m ms ih =>
    intro ls h1 h2 h3
    cases ls with
    | nil => simp at h2
    | cons l ls =>
      cases k with
      | zero =>
        simp at h1 h2
        subst h1 h2
        simp [casOf, h3]
      | succ k =>
        have e : (casOf as (m :: ms) (l :: ls))[k + 1]? = (casOf as ms ls)[k]? := by
          cases m with
          | false => cases l <;> rfl
          | true => cases l <;> rfl
        rw [e]
        exact ih (by simpa using h1) (by simpa using h2) h3
/-- two written arguments stand apart -/
theorem ios_inj {ms : List Bool} {ls : List LV} (nd : (iosOf ms ls).Nodup) : ∀ {j k i : Nat}, ms[j]? = some true → ls[j]? = some (.inl i) → ms[k]? = some true → ls[k]? = some (.inl i) → j = k := by
  induction ms generalizing ls with
  | nil => intro j k i h; simp at h
  | cons m ms ih =>
    intro j k i h1 h2 h3 h4
    cases ls with
    | nil => simp at h2
    | cons l ls =>
      have nd' : (iosOf ms ls).Nodup := by
        cases m with
        | false => cases l <;> simpa [iosOf] using nd
        | true => cases l with
          | inl z => simp only [iosOf, List.nodup_cons] at nd; exact nd.2
          | inr d => simpa [iosOf] using nd
      have first : ∀ {k : Nat}, m = true → l = .inl i → ms[k]? = some true → ls[k]? = some (.inl i) → False := fun e1 e2 q3 q4 => by
        subst e1 e2
        simp only [iosOf, List.nodup_cons] at nd
        exact nd.1 (mem_ios.mpr ⟨_, q3, q4⟩)
      cases j with
      | zero =>
        cases k with
        | zero => rfl
        | succ k =>
          have a1 : m = true := by simpa using h1
          have a2 : l = .inl i := by simpa using h2
          have a3 : ms[k]? = some true := by simpa using h3
          have a4 : ls[k]? = some (.inl i) := by simpa using h4
          exact (first a1 a2 a3 a4).elim
      | succ j =>
        have a1 : ms[j]? = some true := by simpa using h1
        have a2 : ls[j]? = some (.inl i) := by simpa using h2
        cases k with
        | zero =>
          have a3 : m = true := by simpa using h3
          have a4 : l = .inl i := by simpa using h4
          exact (first a3 a4 a1 a2).elim
        | succ k =>
          have a3 : ms[k]? = some true := by simpa using h3
          have a4 : ls[k]? = some (.inl i) := by simpa using h4
          rw [ih nd' a1 a2 a3 a4]
theorem args_ok (E : EnvOk F H σ env as) : ∀ {vs : List V} {ls : List LV} {ms : List Bool} {ds : List D}, LvsOk σ H (Av as F.B) vs ls → argsOf ms ls env = some ds → ArgsOk H (Av as F.B) vs ms ds (casOf as ms ls)
  | _, _, [], ds, .nil, h => by cases h; exact .nil
  | _, _, m :: ms, ds, .nil, h => by cases h
  | _, _, [], ds, .cons _ _, h => by cases h
  | _, _, m :: ms, ds, .cons (v := v) (l := l) (ls := ls) hv t, h => by
    unfold argsOf at h
    cases e1 : argOf m l env with
    | none => rw [e1] at h; cases h
    | some d =>
      cases e2 : argsOf ms ls env with
      | none => rw [e1, e2] at h; cases h
      | some es =>
        rw [e1, e2] at h
        cases h
        have ih := args_ok E t e2
        cases m with
        | false =>
          cases l with
          | inr d' =>
            simp only [argOf] at e1
            cases e1
            exact .val hv ih
          | inl i =>
            simp only [argOf] at e1
            split at e1
            · rename_i d' es
              cases e1
              obtain ⟨x, o, h1, h2, h3⟩ := E.sl.at es
              have hv' : σ[i]? = some (some v) := hv
              rw [h1] at hv'
              cases hv'
              cases h3 with
              | val q => exact .val q ih
            · cases e1
        | true =>
          cases l with
          | inr d' => cases e1
          | inl i =>
            simp only [argOf] at e1
            split at e1
            · rename_i io d' es
              cases e1
              obtain ⟨x, o, h1, h2, h3⟩ := E.sl.at es
              have hv' : σ[i]? = some (some v) := hv
              rw [h1] at hv'
              cases hv'
              cases h3 with
              | own q =>
                simp only [casOf, h2, Option.join]
                exact .io q ih
            · cases e1
/-- behind a call -/
theorem EnvOk.called (E : EnvOk F H σ env as) {ms : List Bool} {ls : List LV} {outs : List D} (nd : (iosOf ms ls).Nodup) (keep : ∀ b o, H b = some o → some b ∉ casOf as ms ls → H' b = some o) (dom : ∀ b, H b ≠ none → H' b ≠ none) {A : Ax}
    (oo : OutsOk H' A (casOf as ms ls) outs) (kp : Kp H (Av as F.B) H' A) (sub : ∀ x, Av as F.B x → A x) {F' : Fm} (hA : A = Av as F'.B) (hP : F'.P = F.P) (h0 : F'.H0 = F.H0) (ap : ∀ a, some a ∈ as → ¬ F'.B a) (bd : ∀ a, F'.B a → ∃ o, H' a = some o ∧ isMu o = true)
    (len : ∀ k i : Nat, ms[k]? = some true → ls[k]? = some (.inl i) → ∃ io d, env[i]? = some (.own io d)) : EnvOk F' H' σ (putOuts ms ls outs env) as := by
  obtain ⟨l1, l2⟩ := E.sl.len
  have other : ∀ i : Nat, i ∉ iosOf ms ls → ∀ a, as[i]? = some (some a) → some a ∉ casOf as ms ls := fun i hi a ha z => by
    obtain ⟨k, hk⟩ := mem_at z
    obtain ⟨j, h1, h2, h3⟩ := casOf_at hk
    have := E.nd j i a h3 ha
    exact hi (this ▸ mem_ios.mpr ⟨k, h1, h2⟩)
  have own : ∀ (i : Nat) (io : Bool) (d : D), (putOuts ms ls outs env)[i]? = some (.own io d) → ∃ d', env[i]? = some (.own io d') := fun i io d e => by
    by_cases hi : i ∈ iosOf ms ls
    · obtain ⟨k, h1, h2⟩ := mem_ios.mp hi
      obtain ⟨io', d', e'⟩ := len k i h1 h2
      obtain ⟨x, o, _, h4, h5⟩ := E.sl.at e'
      cases h5 with
      | own q =>
        obtain ⟨d2, h6, _⟩ := oo k _ (at_casOf h1 h2 h4)
        rw [putOuts_at nd h1 h2 h6 e'] at e
        cases e
        exact ⟨d', e'⟩
    · rw [putOuts_ne hi] at e
      exact ⟨d, e⟩
  have own' : ∀ (i : Nat) (io : Bool) (d : D), env[i]? = some (.own io d) → ∃ d', (putOuts ms ls outs env)[i]? = some (.own io d') := fun i io d e => by
    by_cases hi : i ∈ iosOf ms ls
    · obtain ⟨k, h1, h2⟩ := mem_ios.mp hi
      obtain ⟨x, o, _, h4, h5⟩ := E.sl.at e
      cases h5 with
      | own q =>
        obtain ⟨d2, h6, _⟩ := oo k _ (at_casOf h1 h2 h4)
        exact ⟨d2, putOuts_at nd h1 h2 h6 e⟩
    · rw [putOuts_ne hi]
      exact ⟨d, e⟩
  refine ⟨?_, E.nd, ap, bd, fun p hp => ?_, fun i d e => ?_, fun i a d e1 e2 => ?_, fun a h => dom a (E.dom a (h0 ▸ h))⟩
  · rw [← hA]
    refine SlsOk.mk' (by rw [putOuts_len]; exact l1) (by rw [putOuts_len]; exact l2) fun i x s o h1 h2 h3 => ?_
    by_cases hi : i ∈ iosOf ms ls
    · obtain ⟨k, k1, k2⟩ := mem_ios.mp hi
      obtain ⟨io', d', e'⟩ := len k i k1 k2
      obtain ⟨x', o', f1, f2, f3⟩ := E.sl.at e'
      rw [h1] at f1
      rw [h3] at f2
      cases f1
      cases f2
      cases f3 with
      | own q =>
        obtain ⟨d2, h6, ow⟩ := oo k _ (at_casOf k1 k2 h3)
        rw [putOuts_at nd k1 k2 h6 e'] at h2
        cases h2
        exact .own ow
    · rw [putOuts_ne hi] at h2
      obtain ⟨x', o', f1, f2, f3⟩ := E.sl.at h2
      rw [h1] at f1
      rw [h3] at f2
      cases f1
      cases f2
      exact f3.kp kp fun a u e1 e2 => keep a u e2 (other i hi a (by rw [h3, e1]))
  · obtain ⟨h1, d, h2⟩ := E.pin p (hP ▸ hp)
    obtain ⟨d', h3⟩ := own' p.1 true d h2
    exact ⟨h1, d', h3⟩
  · obtain ⟨d', h3⟩ := own i true d e
    rw [hP]
    exact E.io i d' h3
  · obtain ⟨d', h3⟩ := own i false d e2
    rw [h0]
    exact E.fr i a d' e1 h3
end
end DL
/-! The data layer: calls of defs, in an expression. -/
namespace DL
open PySem PySem.Spec PyProof.Rows L2

theorem passes0 {X : Cx} : Passes CX0 X (fun _ _ _ => False) := fun _ _ _ _ _ _ _ h => h.elim
/-- what the call's promise asks, the written arguments set apart -/
def Bc (B : Ax) (as cas : List (Option Addr)) : Ax := ⟨B.K, fun a => Av as B a ∧ some a ∉ cas⟩
theorem casOf_sub {as : List (Option Addr)} {ms : List Bool} {ls : List LV} {a : Addr} (h : some a ∈ casOf as ms ls) : some a ∈ as := by
  obtain ⟨k, hk⟩ := mem_at h
  obtain ⟨i, _, _, h3⟩ := casOf_at hk
  exact at_mem h3
theorem bc_to {B : Ax} {as : List (Option Addr)} {ms : List Bool} {ls : List LV} (x : Addr) (h : Av (casOf as ms ls) (Bc B as (casOf as ms ls)) x) : Av as B x := by
  rcases h with h | h
  · exact Or.inl (casOf_sub h)
  · exact h.1
theorem bc_of {B : Ax} {as : List (Option Addr)} {ms : List Bool} {ls : List LV} (x : Addr) (h : Av as B x) : Av (casOf as ms ls) (Bc B as (casOf as ms ls)) x := by
  by_cases z : some x ∈ casOf as ms ls
  · exact Or.inl z
  · exact Or.inr ⟨h, z⟩
theorem ArgsOk.kp {H H' : Hp} {A A' : Ax} (k : Kp H A H' A') (e : ∀ o a, H a = some o → H' a = some o) {vs : List V} {ms : List Bool} {ds : List D} {as : List (Option Addr)} (h : ArgsOk H A vs ms ds as) : ArgsOk H' A' vs ms ds as := by
  induction h with
  | nil => exact .nil
  | val q _ ih => exact .val (q.kp k) ih
  | io q _ ih => exact .io (q.kp k fun o z => e o _ z) ih
theorem ArgsOk.same {H : Hp} {A A' : Ax} (k : A'.K = A.K) (s : ∀ a, A' a → A a) {vs : List V} {ms : List Bool} {ds : List D} {as : List (Option Addr)} (h : ArgsOk H A vs ms ds as) : ArgsOk H A' vs ms ds as := h.kp (Kp.less k s) fun _ _ e => e
theorem argOf_own {F : Fm} {H : Hp} {σ : Sg} {env : En} {as : List (Option Addr)} (E : EnvOk F H σ env as) : ∀ {ms : List Bool} {ls : List LV} {ds : List D}, argsOf ms ls env = some ds → ∀ k i : Nat, ms[k]? = some true → ls[k]? = some (.inl i) → ∃ io d, env[i]? = some (.own io d)
  | [], ls, ds, h, k, i, h1, _ => by simp at h1
  | m :: ms, [], ds, h, k, i, _, h2 => by simp at h2
  | m :: ms, l :: ls, ds, h, k, i, h1, h2 => by
    unfold argsOf at h
    cases e1 : argOf m l env with
    | none => rw [e1] at h; cases h
    | some d =>
      cases e2 : argsOf ms ls env with
      | none => rw [e1, e2] at h; cases h
      | some es =>
        cases k with
        | zero =>
          simp at h1 h2
          subst h1 h2
          simp only [argOf] at e1
          split at e1
          · rename_i io d' es; exact ⟨io, d', es⟩
          · cases e1
        | succ k => exact argOf_own E e2 k i (by simpa using h1) (by simpa using h2)
section
variable {X : Cx} {k : Nat} {f : Addr} {fd : FuncData} {ps : List Str} {ms : List Bool} {fn : Fn} {x : Str} {p pos : Pos} {e : Expr} {es : List Expr} {fs : FLs}
/-- the two shapes of a call's asking -/
theorem call_asks {F : Fm} {K : PySem.W.Frag} {σ : Sg} {H1 : Hp} {e1 : En} {as1 : List (Option Addr)} {vs : List V} {ls : List LV} {ds : List D} {fr : Bool} {r : D} {outs : List D} {Q : VK} {Ex : XK} (hK : F.B.K = K) (E1 : EnvOk F H1 σ e1 as1) (lv : LvsOk σ H1 (Av as1 F.B) vs ls) (ha : argsOf ms ls e1 = some ds) (nd : (iosOf ms ls).Nodup)
    (hf : fn ds = some (fr, r, outs))
    (q : ∀ v H2, (∀ b o, H1 b = some o → some b ∉ casOf as1 ms ls → H2 b = some o) → (∀ b, H1 b ≠ none → H2 b ≠ none) → RetOkS H1 (Bc F.B as1 (casOf as1 ms ls)) (casOf as1 ms ls) H2 v outs r fr → Q v H2) : spD K ms fn vs H1 Q Ex := by
  refine ⟨Bc F.B as1 (casOf as1 ms ls), ds, casOf as1 ms ls, fr, r, outs, hK, ArgsOk.same (A := Av as1 F.B) (A' := Av (casOf as1 ms ls) (Bc F.B as1 (casOf as1 ms ls))) rfl bc_to (args_ok E1 lv ha), fun i j a h1 h2 => ?_, fun a z h => h.2 z, fun a h => E1.mu a h.1, hf, q⟩
  obtain ⟨i1, a1, a2, a3⟩ := casOf_at h1
  obtain ⟨i2, b1, b2, b3⟩ := casOf_at h2
  have := E1.nd i1 i2 a a3 b3
  subst this
  exact ios_inj nd a1 a2 b1 b2
theorem call_step {as as1 : List (Option Addr)} {H1 H2 : Hp} {cas : List (Option Addr)} (sub : ∀ a, some a ∈ cas → some a ∈ as1) (keep : ∀ b o, H1 b = some o → some b ∉ cas → H2 b = some o) (dom : ∀ b, H1 b ≠ none → H2 b ≠ none) : Step as1 H1 as1 H2 := ⟨fun b o e n => keep b o e fun z => n (sub b z), dom, fun _ z => .inl z⟩
theorem de_call (F : FnG X.prog X.w X.K X.mg X.base CX0 k f fd ps (spD X.K ms fn)) (hg : X.A.guards = some []) (hr : Room k X.A) (gl : Gl X x) (hm : X.mg x = some (.ref f)) (hk : PySem.W.keepIn X.K (.ref f) = true) (hb : Binds X.K fd ps [])
    (ha : PA X (e :: es) (tLs X.K fs)) (hdb : (x == ("__debug__" : Str)) = false := by decide) (he : starEach (e :: es) X.env = (false, eval e X.env) :: starEach es X.env := by rfl) (hpl : (backTo pos (starEach es X.env)).any (·.1) = false := by rfl) :
    PE X (.Call (.Name x p) (e :: es) [] pos) (tD X.K (fCall ms fn fs)) := by
  refine PE.weak (pe_callG (E := fun _ _ _ => False) F hg hr gl hm hk hb passes0 ha hdb he hpl) ?_
  rintro σ H Q ⟨F, env, as, d, env', hK, E, ef, q⟩
  unfold fCall at ef
  cases r1 : fs env with
  | none => rw [r1] at ef; cases ef
  | some pr =>
    obtain ⟨ls, e1⟩ := pr
    simp only [r1] at ef
    cases r2 : argsOf ms ls e1 with
    | none => rw [r2] at ef; cases ef
    | some ds =>
      simp only [r2] at ef
      split at ef
      · rename_i nd
        cases r3 : fn ds with
        | none => rw [r3] at ef; cases ef
        | some t =>
          obtain ⟨fr, r, outs⟩ := t
          simp only [r3] at ef
          cases ef
          refine ⟨F, env, as, ls, e1, hK, E, r1, fun vs H1 as1 E1 S1 lv => call_asks hK E1 lv r2 nd r3 fun v H2 keep dom ro => ?_⟩
          have S2 : Step as1 H1 as1 H2 := call_step (as := as) (fun a => casOf_sub) keep dom
          cases fr with
          | false =>
            obtain ⟨oo, iv⟩ := ro
            have oo' : OutsOk H2 (Av as1 F.B) (casOf as1 ms ls) outs := fun i a h => let ⟨d, h1, h2⟩ := oo i a h; ⟨d, h1, h2.kp (Kp.less (A := Av (casOf as1 ms ls) (Bc F.B as1 (casOf as1 ms ls))) (A' := Av as1 F.B) rfl bc_of) fun _ e => e⟩
            refine q v H2 as1 (E1.called (F' := F) nd keep dom oo' (S2.kp) (fun _ z => z) rfl rfl rfl E1.ap (fun a h => ?_) (argOf_own E1 r2)) (S1.trans S2) (iv.kp (Kp.less (A := Av (casOf as1 ms ls) (Bc F.B as1 (casOf as1 ms ls))) (A' := Av as1 F.B) rfl bc_of))
            obtain ⟨o, h1, h2⟩ := E1.bd a h
            exact ⟨o, keep a o h1 fun z => E1.ap a (casOf_sub z) h, h2⟩
          | true =>
            obtain ⟨a, rfl, n, oo, nw⟩ := ro
            have oo' : OutsOk H2 (Av as1 F.B) (casOf as1 ms ls) outs := fun i b h => let ⟨d, h1, h2⟩ := oo i b h; ⟨d, h1, h2.kp (Kp.less (A := (Av (casOf as1 ms ls) (Bc F.B as1 (casOf as1 ms ls))).add a) (A' := Av as1 F.B) rfl fun x z => Or.inl (bc_of x z)) fun _ e => e⟩
            refine q _ H2 as1 (E1.called (F' := F) nd keep dom oo' (S2.kp) (fun _ z => z) rfl rfl rfl E1.ap (fun a h => ?_) (argOf_own E1 r2)) (S1.trans S2) (nw.isD.kp (Kp.less (A := Av (casOf as1 ms ls) (Bc F.B as1 (casOf as1 ms ls))) (A' := Av as1 F.B) rfl bc_of))
            obtain ⟨o, h1, h2⟩ := E1.bd a h
            exact ⟨o, keep a o h1 fun z => E1.ap a (casOf_sub z) h, h2⟩
      · cases ef
theorem df_call (F : FnG X.prog X.w X.K X.mg X.base CX0 k f fd ps (spD X.K ms fn)) (hg : X.A.guards = some []) (hr : Room k X.A) (gl : Gl X x) (hm : X.mg x = some (.ref f)) (hk : PySem.W.keepIn X.K (.ref f) = true) (hb : Binds X.K fd ps [])
    (ha : PA X (e :: es) (tLs X.K fs)) (hdb : (x == ("__debug__" : Str)) = false := by decide) (he : starEach (e :: es) X.env = (false, eval e X.env) :: starEach es X.env := by rfl) (hpl : (backTo pos (starEach es X.env)).any (·.1) = false := by rfl) :
    PE X (.Call (.Name x p) (e :: es) [] pos) (tF X.K (fCallF ms fn fs)) := by
  refine PE.weak (pe_callG (E := fun _ _ _ => False) F hg hr gl hm hk hb passes0 ha hdb he hpl) ?_
  rintro σ H Q ⟨F, env, as, d, env', hK, E, ef, q⟩
  unfold fCallF at ef
  cases r1 : fs env with
  | none => rw [r1] at ef; cases ef
  | some pr =>
    obtain ⟨ls, e1⟩ := pr
    simp only [r1] at ef
    cases r2 : argsOf ms ls e1 with
    | none => rw [r2] at ef; cases ef
    | some ds =>
      simp only [r2] at ef
      split at ef
      · rename_i nd
        split at ef
        · rename_i r outs r3
          cases ef
          refine ⟨F, env, as, ls, e1, hK, E, r1, fun vs H1 as1 E1 S1 lv => call_asks hK E1 lv r2 nd r3 fun v H2 keep dom ro => ?_⟩
          have S2 : Step as1 H1 as1 H2 := call_step (as := as) (fun a => casOf_sub) keep dom
          obtain ⟨a, rfl, n, oo, nw⟩ := ro
          have h0 : H a = none := by
            cases z : H a with
            | none => rfl
            | some o => exact absurd n (S1.dom a (some_ne z))
          have nA : ¬ Av as1 F.B a := fun z => E1.av a z n
          have oo' : OutsOk H2 ((Av as1 F.B).add a) (casOf as1 ms ls) outs := fun i b h => let ⟨d, h1, h2⟩ := oo i b h; ⟨d, h1, h2.kp (Kp.less (A := (Av (casOf as1 ms ls) (Bc F.B as1 (casOf as1 ms ls))).add a) (A' := (Av as1 F.B).add a) rfl fun x z => z.imp (bc_of x) id) fun _ e => e⟩
          have hA : (Av as1 F.B).add a = Av as1 (F.add a).B := by
            show (⟨F.B.K, _⟩ : Ax) = ⟨F.B.K, _⟩
            congr 1
            funext x
            exact propext or_assoc
          have k2 : Kp H1 (Av as1 F.B) H2 ((Av as1 F.B).add a) := ⟨rfl, S2.kp.tp, S2.kp.ls, S2.kp.rd, fun x e nx z => z.elim nx fun z => e (z ▸ n)⟩
          have mu := nw.o.mu
          refine q _ H2 as1 (E1.called (F' := F.add a) nd keep dom oo' k2 (fun _ z => Or.inl z) hA rfl rfl (fun x h z => z.elim (E1.ap x h) fun z => nA (Or.inl (z ▸ h))) (fun x h => ?_) (argOf_own E1 r2)) (S1.trans S2) h0 ⟨nA, nw.o.kp (Kp.less (A := (Av (casOf as1 ms ls) (Bc F.B as1 (casOf as1 ms ls))).add a) (A' := (Av as1 F.B).add a) rfl fun x z => z.imp (bc_of x) id) fun _ e => e⟩
          rcases h with h | h
          · obtain ⟨o, h1, h2⟩ := E1.bd x h
            exact ⟨o, keep x o h1 fun z => E1.ap x (casOf_sub z) h, h2⟩
          · exact h ▸ mu
        · cases ef
      · cases ef

/-! ### a def that only looks -/
/-- nothing of it an address -/
def flat : D → Bool
  | .non => true
  | .bl _ => true
  | .int _ => true
  | .str _ => true
  | _ => false
theorem IsD.flat {H H' : Hp} {A A' : Ax} {v : V} {d : D} (h : IsD H A v d) (f : flat d = true) : IsD H' A' v d := by
  cases h <;> first | exact .non | exact .bl _ | exact .int _ | exact .str _ | cases f
def fCallBor (fn : Fn) (fs : FLs) : FE := fun env => match fs env with
  | none => none
  | some (ls, e) => match ress e ls with
    | none => none
    | some ds => match fn ds with
      | none => none
      | some (_, r, _) => if flat r then some (r, e) else none
theorem cs_args {H : Hp} {A : Ax} : ∀ {vs : List V} {ds : List D} {ms : List Bool}, IsCs H A vs ds → ms.length = ds.length → (∀ m ∈ ms, m = false) → ∀ {A' : Ax}, A'.K = A.K → (∀ x, ¬ A' x) → ArgsOk H A' vs ms ds (List.replicate ms.length none)
  | _, _, [], .nil, _, _, _, _, _ => .nil
  | _, _, m :: ms, .nil, h, _, _, _, _ => by cases h
  | _, _, [], .cons _ _, h, _, _, _, _ => by cases h
  | _, _, m :: ms, .cons h t, hl, hm, A', k, n => by
    have e : m = false := hm m List.mem_cons_self
    subst e
    refine .val ?_ (cs_args t (by simpa using hl) (fun m h => hm m (List.mem_cons_of_mem _ h)) k n)
    cases h with
    | d q => exact q.kp (Kp.less k fun x z => absurd z (n x))
    | o q => exact (q.kp (Kp.less k fun x z => absurd z (n x)) fun _ e => e).isD (n _)
theorem de_callBor (F : FnG X.prog X.w X.K X.mg X.base CX0 k f fd ps (spD X.K ms fn)) (hg : X.A.guards = some []) (hr : Room k X.A) (gl : Gl X x) (hm : X.mg x = some (.ref f)) (hk : PySem.W.keepIn X.K (.ref f) = true) (hb : Binds X.K fd ps [])
    (ha : PA X (e :: es) (tLs X.K fs)) (hms : (∀ m ∈ ms, m = false) := by decide) (hl : ∀ ds t, fn ds = some t → ds.length = ms.length) (hdb : (x == ("__debug__" : Str)) = false := by decide) (he : starEach (e :: es) X.env = (false, eval e X.env) :: starEach es X.env := by rfl) (hpl : (backTo pos (starEach es X.env)).any (·.1) = false := by rfl) :
    PE X (.Call (.Name x p) (e :: es) [] pos) (tD X.K (fCallBor fn fs)) := by
  refine PE.weak (pe_callG (E := fun _ _ _ => False) F hg hr gl hm hk hb passes0 ha hdb he hpl) ?_
  rintro σ H Q ⟨F, env, as, d, env', hK, E, ef, q⟩
  unfold fCallBor at ef
  cases r1 : fs env with
  | none => rw [r1] at ef; cases ef
  | some pr =>
    obtain ⟨ls, e1⟩ := pr
    simp only [r1] at ef
    cases r2 : ress e1 ls with
    | none => rw [r2] at ef; cases ef
    | some ds =>
      simp only [r2] at ef
      cases r3 : fn ds with
      | none => rw [r3] at ef; cases ef
      | some t =>
        obtain ⟨fr, r, outs⟩ := t
        simp only [r3] at ef
        split at ef
        · rename_i fl
          cases ef
          refine ⟨F, env, as, ls, _, hK, E, r1, fun vs H1 as1 E1 S1 lv => ?_⟩
          have hl' := hl ds _ r3
          refine ⟨⟨F.B.K, fun _ => False⟩, ds, List.replicate ms.length none, fr, _, outs, hK, cs_args (lv.c E1 r2) hl'.symm hms rfl fun x z => ?_, fun i j a h _ => ?_, fun a h _ => ?_, fun a h => h.elim, r3, fun v H2 keep dom ro => ?_⟩
          · rcases z with z | z
            · rw [List.mem_replicate] at z; cases z.2
            · exact z
          · rw [List.getElem?_replicate] at h; split at h <;> cases h
          · rw [List.mem_replicate] at h; cases h.2
          · have g : Gr H1 H2 := fun b o e => keep b o e fun z => by rw [List.mem_replicate] at z; cases z.2
            have iv : IsD H2 (Av as1 F.B) v d := by
              cases fr with
              | false => exact ro.2.flat fl
              | true =>
                obtain ⟨a, _, _, _, nw⟩ := ro
                have := nw.o.mu
                have ow := nw.o
                cases d <;> first | exact (show False from ow).elim | exact absurd fl (by simp [flat])
            exact q v H2 as1 (E1.gr g) (S1.trans (g.step _)) iv
        · cases ef
end
end DL
/-! The data layer: list comprehensions. -/
namespace DL
open PySem PySem.Spec PyProof.Rows L2

/-! ### a block's own slots -/
def wipeE (env : En) : List Nat → En
  | [] => env
  | i :: is => (wipeE env is).set i .un
def mineAll (env : En) : List Nat → Bool
  | [] => true
  | i :: is => (match env[i]? with
    | some s => s.mine
    | none => false) && mineAll env is
def keepS : Option Sl → Sl
  | some (.val d) => .val d
  | _ => .un
def restE (env e : En) : List Nat → En
  | [] => e
  | i :: is => (restE env e is).set i (keepS env[i]?)
section
variable {F : Fm} {H : Hp} {σ : Sg} {env : En} {as : List (Option Addr)}
theorem wipeE_at {i : Nat} {s : Sl} : ∀ {vs : List Nat}, env[i]? = some s → (wipeE env vs)[i]? = some s ∨ (wipeE env vs)[i]? = some .un
  | [], e => .inl e
  | v :: vs, e => by
    unfold wipeE
    by_cases h : i = v
    · subst h
      rcases wipeE_at (vs := vs) e with z | z <;> exact .inr (List.getElem?_set_self (List.getElem?_eq_some_iff.mp z).1)
    · rw [at_set_ne h]
      exact wipeE_at e
theorem mineAll_at {i : Nat} : ∀ {vs : List Nat}, mineAll env vs = true → i ∈ vs → ∃ s, env[i]? = some s ∧ s.mine = true
  | v :: vs, h, m => by
    unfold mineAll at h
    rw [Bool.and_eq_true] at h
    rcases List.mem_cons.mp m with m | m
    · subst m
      cases e : env[i]? with
      | none => rw [e] at h; cases h.1
      | some s => rw [e] at h; exact ⟨s, rfl, h.1⟩
    · exact mineAll_at h.2 m
theorem EnvOk.wiped (E : EnvOk F H σ env as) : ∀ {vs : List Nat}, (∀ i ∈ vs, ∃ s, env[i]? = some s ∧ s.mine = true) → ∃ as', EnvOk F H (wipe σ vs) (wipeE env vs) as' ∧ Step as H as' H
  | [], _ => ⟨as, E, Step.refl _ _⟩
  | v :: vs, h => by
    obtain ⟨as1, E1, S1⟩ := EnvOk.wiped E (vs := vs) fun i m => h i (List.mem_cons_of_mem _ m)
    obtain ⟨s, hs, hm⟩ := h v List.mem_cons_self
    have : ∃ s, (wipeE env vs)[v]? = some s ∧ s.mine = true := by
      rcases wipeE_at (vs := vs) hs with z | z
      · exact ⟨s, z, hm⟩
      · exact ⟨.un, z, rfl⟩
    obtain ⟨s', hs', hm'⟩ := this
    obtain ⟨E2, S2⟩ := E1.put (s' := .un) (x := none) hs' hm' .un fun _ _ z => nomatch z
    exact ⟨_, E2, S1.trans S2⟩
def unwipe (σ : Sg) (τ : Sg) : List Nat → Sg
  | [] => τ
  | i :: is => (unwipe σ τ is).set i (σ[i]?).join
theorem unwipe_out {τ : Sg} {i : Nat} : ∀ {vs : List Nat}, i ∉ vs → (unwipe σ τ vs)[i]? = τ[i]?
  | [], _ => rfl
  | v :: vs, h => by
    unfold unwipe
    rw [at_set_ne (show i ≠ v from fun e => h (e ▸ List.mem_cons_self))]
    exact unwipe_out fun z => h (List.mem_cons_of_mem _ z)
theorem unwipe_len {τ : Sg} : ∀ (vs : List Nat), (unwipe σ τ vs).length = τ.length
  | [] => rfl
  | v :: vs => by unfold unwipe; rw [List.length_set, unwipe_len vs]
theorem unwipe_in {τ : Sg} (hl : τ.length = σ.length) {i : Nat} : ∀ {vs : List Nat}, i ∈ vs → (unwipe σ τ vs)[i]? = σ[i]?
  | v :: vs, h => by
    unfold unwipe
    by_cases e : i = v
    · subst e
      by_cases hi : i < σ.length
      · rw [List.getElem?_set_self (by rw [unwipe_len, hl]; exact hi), List.getElem?_eq_getElem hi]
        rfl
      · rw [List.getElem?_eq_none (by rw [List.length_set, unwipe_len, hl]; omega), List.getElem?_eq_none (by omega)]
    · rw [at_set_ne e]
      exact unwipe_in hl ((List.mem_cons.mp h).resolve_left e)
theorem unwipe_wipe (vs : List Nat) : unwipe σ (wipe σ vs) vs = σ := by
  apply List.ext_getElem?
  intro i
  by_cases h : i ∈ vs
  · exact unwipe_in (wipe_length σ vs) h
  · rw [unwipe_out h, wipe_out h]
theorem restE_len {e : En} : ∀ vs : List Nat, (restE env e vs).length = e.length
  | [] => rfl
  | v :: vs => by unfold restE; rw [List.length_set, restE_len vs]
theorem restE_mine {e : En} {i : Nat} {s : Sl} (hm : s.mine = true) : ∀ {vs : List Nat}, e[i]? = some s → ∃ s', (restE env e vs)[i]? = some s' ∧ s'.mine = true
  | [], h => ⟨s, h, hm⟩
  | v :: vs, h => by
    unfold restE
    obtain ⟨s', h', m'⟩ := restE_mine (e := e) hm (vs := vs) h
    by_cases z : i = v
    · subst z
      refine ⟨_, List.getElem?_set_self (List.getElem?_eq_some_iff.mp h').1, ?_⟩
      unfold keepS
      split <;> rfl
    · rw [at_set_ne z]
      exact ⟨s', h', m'⟩
/-- behind a block: its slots as they were -/
theorem EnvOk.rested {H0 : Hp} {as0 : List (Option Addr)} {B0 : Ax} (E0 : SlsOk H0 (Av as0 B0) σ env as0) {e : En} {τ : Sg} : ∀ {vs : List Nat} {as' : List (Option Addr)}, EnvOk F H τ e as' → Kp H0 (Av as0 B0) H (Av as' F.B) → (∀ i ∈ vs, ∃ s, e[i]? = some s ∧ s.mine = true) →
    ∃ as'', EnvOk F H (unwipe σ τ vs) (restE env e vs) as'' ∧ Step as' H as'' H
  | [], as', E, _, _ => ⟨as', E, Step.refl _ _⟩
  | v :: vs, as', E, k, h => by
    obtain ⟨as1, E1, S1⟩ := EnvOk.rested E0 (vs := vs) E k fun i m => h i (List.mem_cons_of_mem _ m)
    obtain ⟨s, hs, hm⟩ := h v List.mem_cons_self
    obtain ⟨s', hs', hm'⟩ := restE_mine (env := env) hm (vs := vs) hs
    have k1 : Kp H0 (Av as0 B0) H (Av (as1.set v none) F.B) := by
      have sub : ∀ a, Av (as1.set v none) F.B a → Av as' F.B a ∨ H a = none := fun a z => by
        rcases z with z | z
        · exact (S1.new a (mem_set_none z)).imp (fun z => Or.inl z) id
        · exact .inl (Or.inr z)
      refine ⟨k.kk, k.tp, k.ls, k.rd, fun a e n z => ?_⟩
      rcases sub a z with z | z
      · exact k.av a e n z
      · cases q : H0 a with
        | none => exact e q
        | some o =>
          have : H a ≠ none := by
            cases o with
            | frz o' u => exact Rd.ne (k.rd a u (.inr ⟨o', q⟩) n)
            | _ => exact Rd.ne (k.rd a _ (.inl q) n)
          exact this z
    have sl : SlOk H (Av (as1.set v none) F.B) (σ[v]?).join (keepS env[v]?) none := by
      cases q : env[v]? with
      | none => exact .un
      | some s0 =>
        cases s0 with
        | un => exact .un
        | own io d => exact .un
        | val d =>
          obtain ⟨x, o, h1, h2, h3⟩ := E0.at q
          cases h3 with
          | val i =>
            rw [h1]
            exact .val (i.kp k1)
    obtain ⟨E2, S2⟩ := E1.put hs' hm' sl (fun io d z => by
      unfold keepS at z
      split at z <;> cases z)
    exact ⟨_, E2, S1.trans S2⟩

/-! ### a new list or dict while it grows -/
/-- a step, but for D -/
def StepD (D : Addr) (as : List (Option Addr)) (H : Hp) (as' : List (Option Addr)) (H' : Hp) : Prop := Step (some D :: as) H (some D :: as') H'
theorem StepD.of {D : Addr} {as as' : List (Option Addr)} {H H' : Hp} (s : Step as H as' H') : StepD D as H as' H' :=
  ⟨fun b o e n => s.keep b o e fun z => n (List.mem_cons_of_mem _ z), s.dom, fun b z => (List.mem_cons.mp z).elim (fun z => .inl (z ▸ List.mem_cons_self)) fun z => (s.new b z).imp (List.mem_cons_of_mem _) id⟩
theorem StepD.trans {D : Addr} {as as1 as2 : List (Option Addr)} {H H1 H2 : Hp} (s : StepD D as H as1 H1) (t : StepD D as1 H1 as2 H2) : StepD D as H as2 H2 := Step.trans s t
theorem StepD.upd {D : Addr} {as : List (Option Addr)} {H : Hp} {o : HO} (h : H D ≠ none) : StepD D as H as (L2.upd H D o) := ⟨fun b u e n => by
  rw [upd_ne (show b ≠ D from fun z => n (z ▸ List.mem_cons_self))]; exact e, fun b h => by
  by_cases e : b = D
  · rw [e, upd_same]; exact fun z => nomatch z
  · rw [upd_ne e]; exact h, fun b z => .inl z⟩
/-- seen from before D was there -/
theorem StepD.old {D : Addr} {as as' : List (Option Addr)} {H H' : Hp} {o : HO} (n : H D = none) (s : StepD D as (L2.upd H D o) as' H') (nd : some D ∉ as') : Step as H as' H' :=
  ⟨fun b u e z => s.keep b u (by rw [upd_ne (ne_of_none e n)]; exact e) fun y => (List.mem_cons.mp y).elim (fun y => ne_of_none e n (Option.some.inj y)) z, fun b e => s.dom b (by
    by_cases q : b = D
    · rw [q, upd_same]; exact fun z => nomatch z
    · rw [upd_ne q]; exact e), fun b z => by
    have ne : b ≠ D := fun e => nd (e ▸ z)
    rcases s.new b (List.mem_cons_of_mem _ z) with y | y
    · exact (List.mem_cons.mp y).elim (fun y => absurd (Option.some.inj y) ne) .inl
    · rw [upd_ne ne] at y; exact .inr y⟩
theorem StepD.kp {D : Addr} {as as' : List (Option Addr)} {H H' : Hp} {B : Ax} (s : StepD D as H as' H') : Kp H (Av as (B.add D)) H' (Av as' (B.add D)) := by
  have k := Step.kp (B := B) s
  have t : ∀ {as : List (Option Addr)} (a : Addr), Av (some D :: as) B a → Av as (B.add D) a := fun a z => by
    rcases z with z | z
    · exact (List.mem_cons.mp z).elim (fun z => Or.inr (Or.inr (Option.some.inj z))) Or.inl
    · exact Or.inr (Or.inl z)
  have f : ∀ {as : List (Option Addr)} (a : Addr), Av as (B.add D) a → Av (some D :: as) B a := fun a z => by
    rcases z with z | z | z
    · exact Or.inl (List.mem_cons_of_mem _ z)
    · exact Or.inr z
    · exact Or.inl (z ▸ List.mem_cons_self)
  exact ⟨rfl, fun a xs e n => k.tp a xs e fun z => n (t a z), fun a xs e n => k.ls a xs e fun z => n (t a z), fun a u e n => k.rd a u e fun z => n (t a z), fun a e n z => k.av a e (fun z => n (t a z)) (f a z)⟩
theorem EnvOk.updB (E : EnvOk F H σ env as) {a : Addr} {o : HO} (hb : F.B a) (m : isMu o = true) : EnvOk F (L2.upd H a o) σ env as := by
  have hA : Av as F.B a := Or.inr hb
  have ne : ∀ b, ¬ Av as F.B b → b ≠ a := fun b n z => n (z ▸ hA)
  have kp : Kp H (Av as F.B) (L2.upd H a o) (Av as F.B) := ⟨rfl, fun x xs e n => by rw [upd_ne (ne x n)]; exact e, fun x xs e n => by rw [upd_ne (ne x n)]; exact e, fun x u e n => by
    rcases e with e | ⟨z, e⟩
    · exact .inl (by rw [upd_ne (ne x n)]; exact e)
    · exact .inr ⟨z, by rw [upd_ne (ne x n)]; exact e⟩, fun _ _ n => n⟩
  refine ⟨E.sl.kp kp fun x u z e => by rw [upd_ne (show x ≠ a from fun q => E.ap x z (q ▸ hb))]; exact e, E.nd, E.ap, fun b h => ?_, E.pin, E.io, E.fr, fun b h => ?_⟩
  · by_cases e : b = a
    · exact ⟨o, by rw [e, upd_same], m⟩
    · rw [upd_ne e]; exact E.bd b h
  · by_cases e : b = a
    · rw [e, upd_same]; exact fun z => nomatch z
    · rw [upd_ne e]; exact E.dom b h
end

theorem wipe_wipe {σ : Sg} {vs : List Nat} : wipe (wipe σ vs) vs = wipe σ vs := by
  apply List.ext_getElem?
  intro j
  by_cases hj : j ∈ vs
  · cases e : (wipe (wipe σ vs) vs)[j]? with
    | none =>
      rw [List.getElem?_eq_none_iff, wipe_length] at e
      exact (List.getElem?_eq_none_iff.mpr e).symm
    | some x =>
      cases e2 : (wipe σ vs)[j]? with
      | none =>
        rw [List.getElem?_eq_none_iff] at e2
        have := (List.getElem?_eq_some_iff.mp e).1
        rw [wipe_length] at this
        omega
      | some x2 =>
        cases x with
        | some v => exact absurd hj (wipe_some e).2
        | none =>
          cases x2 with
          | some v => exact absurd hj (wipe_some e2).2
          | none => rfl
  · rw [wipe_out hj]
/-! ### the comprehension -/
def fYes : FT := fun env => some (true, env)
def compD (g : FG) (t : FT) (f : FE) (vs : List Nat) : List D → FA
  | [] => fun env => some ([], env)
  | d :: ds => fun env => match g d env with
    | none => none
    | some e1 => match t e1 with
      | none => none
      | some (false, e2) => if mineAll e2 vs then compD g t f vs ds (wipeE e2 vs) else none
      | some (true, e2) => match f e2 with
        | none => none
        | some (x, e3) => if mineAll e3 vs then match compD g t f vs ds (wipeE e3 vs) with
          | none => none
          | some (xs, e4) => some (x :: xs, e4) else none
def fComp (fi : FI) (g : FG) (t : FT) (f : FE) (vs : List Nat) : FE := fun env => match fi env with
  | none => none
  | some (ds, e) => if ds.length ≤ mx ∧ mineAll e vs = true then match compD g t f vs ds (wipeE e vs) with
    | none => none
    | some (xs, e') => if mineAll e' vs then some (.lst xs, restE e e' vs) else none else none
theorem lc_of {K : PySem.W.Frag} {fi : FI} {g : FG} {gv : List Nat} {t : FT} {f : FE} {vs : List Nat} {σ : Sg} {H : Hp} {Q : VK} (hgv : ∀ i ∈ gv, i ∈ vs) (h : tF K (fComp fi g t f vs) σ H Q) : tLc (tI K fi) (tG K g gv) (tT K t) (tD K f) vs σ H Q := by
  obtain ⟨F, env, as, d, env', hK, E, ef, q⟩ := h
  unfold fComp at ef
  cases r1 : fi env with
  | none => rw [r1] at ef; cases ef
  | some p =>
    obtain ⟨ds, e0⟩ := p
    simp only [r1] at ef
    split at ef
    · rename_i hz
      obtain ⟨hlen, hmine⟩ := hz
      cases r2 : compD g t f vs ds (wipeE e0 vs) with
      | none => rw [r2] at ef; cases ef
      | some p2 =>
        obtain ⟨xs, e9⟩ := p2
        simp only [r2] at ef
        split at ef
        · rename_i hm9
          cases ef
          refine ⟨F, env, as, ds, e0, hK, E, r1, fun J H1 as1 E1 S1 it D hD => ?_⟩
          have tr := E1.trk
          have g0 : Gr H1 (upd H1 D (.lst [])) := Gr.new hD
          have ED : EnvOk (F.add D) (upd H1 D (.lst [])) σ e0 as1 := E1.more g0 hD ⟨_, upd_same, rfl⟩ tr
          obtain ⟨asW, EW, SW⟩ := ED.wiped (vs := vs) fun i m => mineAll_at hmine m
          refine ⟨fun i m Hi => m = ds.length - i ∧ ∃ env asi acc dacc rest, EnvOk (F.add D) Hi (wipe σ vs) env asi ∧ StepD D as1 (upd H1 D (.lst [])) asi Hi ∧ Hi D = some (.lst acc) ∧ IsDs Hi (Av asi (F.add D).B) acc dacc ∧ dacc.length ≤ i ∧ compD g t f vs (ds.drop i) env = some (rest, e9) ∧ xs = dacc ++ rest,
            ⟨_, rfl, _, asW, [], [], xs, EW, StepD.of SW, upd_same, .nil, Nat.zero_le _, r2, rfl⟩, ?_⟩
          rintro i m Hi ⟨rfl, env, asi, acc, dacc, rest, Ei, Si, hDi, hacc, hli, ei, hxs⟩
          have kx : Kx H1 (Av as1 F.B) Hi (Av asi (F.add D).B) := ⟨rfl, fun a o e n => Si.keep a o (by rw [upd_ne (ne_of_none e hD)]; exact e) fun z => (List.mem_cons.mp z).elim (fun z => ne_of_none e hD (Option.some.inj z)) fun z => n (Or.inl z), fun a e n z => by
            have e' : a ≠ D := fun q => e (q ▸ hD)
            rcases z with z | z | z
            · rcases Si.new a (List.mem_cons_of_mem _ z) with y | y
              · exact (List.mem_cons.mp y).elim (fun y => e' (Option.some.inj y)) fun y => n (Or.inl y)
              · rw [upd_ne e'] at y; exact e y
            · exact n (Or.inr z)
            · exact e' z⟩
          obtain ⟨go, stop⟩ := it i Hi _ kx Ei.mu
          by_cases hi : i < ds.length
          · have hd : ds[i]? = some ds[i] := List.getElem?_eq_getElem hi
            rw [List.drop_eq_getElem_cons hi] at ei
            unfold compD at ei
            obtain ⟨g1, yl⟩ := go _ hd
            refine .inr ⟨g1, fun H' => ∃ env asi acc dacc rest, EnvOk (F.add D) H' (wipe σ vs) env asi ∧ StepD D as1 (upd H1 D (.lst [])) asi H' ∧ H' D = some (.lst acc) ∧ IsDs H' (Av asi (F.add D).B) acc dacc ∧ dacc.length ≤ i + 1 ∧ compD g t f vs (ds.drop (i + 1)) env = some (rest, e9) ∧ xs = dacc ++ rest,
              fun H' z => ⟨_, by omega, rfl, z⟩, fun x H' y => ?_⟩
            obtain ⟨gr, ix⟩ := yl x H' y
            have Sgr := gr.step asi
            cases r3 : g ds[i] env with
            | none => rw [r3] at ei; cases ei
            | some e1 =>
              simp only [r3] at ei
              refine ⟨F.add D, env, asi, _, e1, hK, Ei.gr gr, ix, r3, fun σ2 H2 as2 E2 S2 w2 => ⟨?_, ?_⟩⟩
              · rw [w2 vs hgv, wipe_wipe]
              · have w2' : wipe σ2 vs = wipe σ vs := by rw [w2 vs hgv, wipe_wipe]
                cases r4 : t e1 with
                | none => rw [r4] at ei; cases ei
                | some p4 =>
                  obtain ⟨b, e2⟩ := p4
                  simp only [r4] at ei
                  refine ⟨F.add D, e1, as2, b, e2, hK, E2, r4, fun H3 as3 E3 S3 => ?_⟩
                  have S03 : Step asi Hi as3 H3 := (Sgr.trans S2).trans S3
                  have nD : ∀ {as : List (Option Addr)} {e : En} {σ : Sg} {H : Hp}, EnvOk (F.add D) H σ e as → some D ∉ as := fun E z => E.ap D z (Or.inr rfl)
                  cases b with
                  | false =>
                    show if false = true then _ else _
                    rw [if_neg Bool.false_ne_true]
                    simp only at ei
                    split at ei
                    · rename_i hm
                      obtain ⟨as4, E4, S4⟩ := E3.wiped (vs := vs) fun i m => mineAll_at hm m
                      rw [w2'] at E4
                      have S04 := S03.trans S4
                      exact ⟨_, as4, acc, dacc, rest, E4, Si.trans (StepD.of S04), S04.keep D _ hDi (nD Ei), hacc.kp (StepD.of S04).kp, by omega, ei, hxs⟩
                    · cases ei
                  | true =>
                    show if true = true then _ else _
                    rw [if_pos rfl]
                    simp only at ei
                    cases r5 : f e2 with
                    | none => rw [r5] at ei; cases ei
                    | some p5 =>
                      obtain ⟨dx, e3⟩ := p5
                      simp only [r5] at ei
                      split at ei
                      · rename_i hm
                        split at ei
                        · cases ei
                        · rename_i ys e4' r6
                          cases ei
                          refine ⟨F.add D, e2, as3, dx, e3, hK, E3, r5, fun y H4 as4 E4 S4 i4 => ?_⟩
                          have S04 := S03.trans S4
                          have hD4 := S04.keep D _ hDi (nD Ei)
                          have la : acc.length = dacc.length := hacc.length
                          refine ⟨acc, hD4, Nat.lt_of_lt_of_le (by rw [la]; omega) (mx_line hlen), ?_⟩
                          have E5 := E4.updB (o := .lst (acc ++ [y])) (Or.inr rfl) rfl
                          obtain ⟨as6, E6, S6⟩ := E5.wiped (vs := vs) fun i m => mineAll_at hm m
                          rw [w2'] at E6
                          have SU : StepD D as4 H4 as6 (upd H4 D (.lst (acc ++ [y]))) := (StepD.upd (some_ne hD4)).trans (StepD.of S6)
                          refine ⟨_, as6, acc ++ [y], dacc ++ [dx], ys, E6, (Si.trans (StepD.of S04)).trans SU, upd_same, ((hacc.kp ((StepD.of S04).kp (B := F.B))).snoc i4).kp SU.kp, by simp; omega, r6, ?_⟩
                          rw [hxs, List.append_assoc]
                          rfl
                      · cases ei
          · have e : ds.drop i = [] := List.drop_eq_nil_of_le (by omega)
            rw [e] at ei
            cases ei
            refine .inl ⟨stop (by omega), ?_⟩
            have nDi : some D ∉ asi := fun z => Ei.ap D z (Or.inr rfl)
            obtain ⟨as9, E9, S9⟩ := EnvOk.rested (F := F.add D) (H0 := upd H1 D (.lst [])) (as0 := as1) (B0 := (F.add D).B) ED.sl (vs := vs) Ei (Si.kp) fun i m => mineAll_at hm9 m
            rw [unwipe_wipe] at E9
            have nD9 : some D ∉ as9 := fun z => E9.ap D z (Or.inr rfl)
            have S19 : StepD D as1 (upd H1 D (.lst [])) as9 Hi := Si.trans (StepD.of S9)
            rw [List.append_nil] at hxs
            subst hxs
            have nA : ¬ Av as9 F.B D := fun z => by
              rcases z with z | z
              · exact nD9 z
              · exact E1.av D (Or.inr z) hD
            refine q D Hi as9 E9 (S1.trans (S19.old hD nD9)) ?_ ⟨nA, acc, hDi, (hacc.kp ((StepD.of S9).kp (B := F.B))).kp (Kp.less (A := Av as9 (F.add D).B) (A' := (Av as9 F.B).add D) rfl fun x z => ?_)⟩
            · cases z : H D with
              | none => rfl
              | some o => exact absurd hD (S1.dom D (some_ne z))
            · rcases z with (z | z) | z
              · exact Or.inl z
              · exact Or.inr (Or.inl z)
              · exact Or.inr (Or.inr z)
        · cases ef
    · cases ef
section
variable {X : Cx} {elt tg iter : Expr} {ifs : List Expr} {scope : Scope} {own : List (Str × Nat)} {pos : Pos} {fi : FI} {g : FG} {gv : List Nat} {t : FT} {f : FE}
theorem PTs.weak {X : Cx} {e : List Expr} {t t' : TT} (h : PTs X e t) (w : ∀ σ H Q, t' σ H Q → t σ H Q) : PTs X e t' := ⟨fun pins s σ H Q I q => h.run pins s σ H Q I (w σ H Q q)⟩
theorem dts_nil : PTs X [] (tT X.K fYes) := by
  refine PTs.weak pts_nil ?_
  rintro σ H Q ⟨F, env, as, b, env', hK, E, ef, q⟩
  cases ef
  exact q H as E (Step.refl _ _)
theorem dts_one {c : Expr} (h : PT X c (tT X.K t)) : PTs X [c] (tT X.K t) := pts_one h
theorem df_comp (hc : X.calm = true) (hN : X.N.Nodup) (hi : PI X tg iter (tI X.K fi)) (ok : BlkOk X.N X.env.scope scope own) (hgv : ∀ i ∈ gv, i ∈ own.map (·.2))
    (hg : ∀ (s : Shared) (H : Hp) (C : Addr) (cl : List (Str × Addr)) (fp : List Addr), PG (X.blk s H scope (compEnvC scope cl C X.env) fp) tg (tG X.K g gv)) (ht : ∀ (s : Shared) (H : Hp) (C : Addr) (cl : List (Str × Addr)) (fp : List Addr), PTs (X.blk s H scope (compEnvC scope cl C X.env) fp) ifs (tT X.K t))
    (he : ∀ (s : Shared) (H : Hp) (C : Addr) (cl : List (Str × Addr)) (fp : List Addr), PE (X.blk s H scope (compEnvC scope cl C X.env) fp) elt (tD X.K f)) (hs : ∀ x, foldedSetIterable iter X.env x = pure x := by intro _; rfl) :
    PE X (.ListComp elt [⟨tg, iter, ifs, 0⟩] scope pos) (tF X.K (fComp fi g t f (own.map (·.2)))) := PE.weak (pe_lc hc hN hi ok hg ht he hs) fun σ H Q h => lc_of hgv h
theorem ds_setLc {i : Nat} {y : Str} {py spos : Pos} (hc : X.calm = true) (hN : X.N.Nodup) (hy : X.N[i]? = some y) (hyl : X.env.scope.names.lookup y = some .local)
    (hsw : swapsWith (.ListComp elt [⟨tg, iter, ifs, 0⟩] scope pos) (some (.Name y py)) spos.line X.env = pure true) (hi : PI X tg iter (tI X.K fi)) (ok : BlkOk X.N X.env.scope scope own) (hgv : ∀ i ∈ gv, i ∈ own.map (·.2))
    (hg : ∀ (s : Shared) (H : Hp) (C : Addr) (cl : List (Str × Addr)) (fp : List Addr), PG (X.blk s H scope (compEnvC scope cl C X.env) fp) tg (tG X.K g gv)) (ht : ∀ (s : Shared) (H : Hp) (C : Addr) (cl : List (Str × Addr)) (fp : List Addr), PTs (X.blk s H scope (compEnvC scope cl C X.env) fp) ifs (tT X.K t))
    (he : ∀ (s : Shared) (H : Hp) (C : Addr) (cl : List (Str × Addr)) (fp : List Addr), PE (X.blk s H scope (compEnvC scope cl C X.env) fp) elt (tD X.K f)) (hs : ∀ x, foldedSetIterable iter X.env x = pure x := by intro _; rfl) :
    PS X (.Assign [.Name y py] (.ListComp elt [⟨tg, iter, ifs, 0⟩] scope pos) spos) (tS X.K (fSetO i (fComp fi g t f (own.map (·.2))))) := PS.weak (ps_setLc hc hN hy hyl hsw hi ok hg ht he hs) fun _ _ _ h => sSetO_of (fun _ _ _ z => lc_of hgv z) h
end
end DL
/-! The data layer: dicts that are walked (they are locked meanwhile). -/
namespace DL
open PySem PySem.Spec PyProof.Rows L2

/-! ### what is kept, read at lists and dicts alone -/
structure Kq (H : Hp) (A : Ax) (H' : Hp) (A' : Ax) : Prop where
  kk : A'.K = A.K
  tp : ∀ a (u : TpO), H a = some u.1 → ¬ A a → H' a = some u.1
  ls : ∀ a xs, H a = some (.lst xs) → ¬ A a → H' a = some (.lst xs)
  rd : ∀ a u, isMu u = true → Rd H a u → ¬ A a → Rd H' a u
  av : ∀ a, H a ≠ none → ¬ A a → ¬ A' a
mutual
theorem IsD.kq {H H' : Hp} {A A' : Ax} (k : Kq H A H' A') : ∀ {v : V} {d : D}, IsD H A v d → IsD H' A' v d
  | _, _, .non => .non
  | _, _, .bl b => .bl b
  | _, _, .int i => .int i
  | _, _, .str x => .str x
  | _, _, .tup r n s => .tup (k.tp _ ⟨.tup _, rfl⟩ r n) (k.av _ (some_ne r) n) (IsDs.kq k s)
  | _, _, .ptp r h n s => .ptp (k.tp _ ⟨.frz _ (.tup _), rfl⟩ r n) h (k.av _ (some_ne r) n) (IsDs.kq k s)
  | _, _, .lst r n s => .lst (k.ls _ _ r n) (k.av _ (some_ne r) n) (IsDs.kq k s)
  | _, _, .frl r s => .frl (r.elim (fun z => .inl ⟨k.rd _ _ rfl z.1 z.2, k.av _ (Rd.ne z.1) z.2⟩) fun z => .inr (k.kk.symm ▸ z)) (IsDs.kq k s)
  | _, _, .dK r n s => .dK (k.rd _ _ rfl r n) (k.av _ (Rd.ne r) n) (IsKs.kq k s)
  | _, _, .dT r n s => .dT (k.rd _ _ rfl r n) (k.av _ (Rd.ne r) n) (IsTs.kq k s)
theorem IsDs.kq {H H' : Hp} {A A' : Ax} (k : Kq H A H' A') : ∀ {vs : List V} {ds : List D}, IsDs H A vs ds → IsDs H' A' vs ds
  | _, _, .nil => .nil
  | _, _, .cons h t => .cons (IsD.kq k h) (IsDs.kq k t)
theorem IsKs.kq {H H' : Hp} {A A' : Ax} (k : Kq H A H' A') : ∀ {vs : List (Key × V)} {ds : List (Key × D)}, IsKs H A vs ds → IsKs H' A' vs ds
  | _, _, .nil => .nil
  | _, _, .cons h t => .cons (IsD.kq k h) (IsKs.kq k t)
theorem IsTs.kq {H H' : Hp} {A A' : Ax} (k : Kq H A H' A') : ∀ {vs : List (List Key × V)} {ds : List (List Key × D)}, IsTs H A vs ds → IsTs H' A' vs ds
  | _, _, .nil => .nil
  | _, _, .cons h t => .cons (IsD.kq k h) (IsTs.kq k t)
end
theorem OwnAt.kq {H H' : Hp} {A A' : Ax} {a : Addr} (k : Kq H A H' A') (e : ∀ o, isMu o = true → H a = some o → H' a = some o) : ∀ {d : D}, OwnAt H A a d → OwnAt H' A' a d
  | .lst _, ⟨_, h, q⟩ => ⟨_, e _ rfl h, q.kq k⟩
  | .dK _, ⟨_, h, q⟩ => ⟨_, e _ rfl h, q.kq k⟩
  | .dT _, ⟨_, h, q⟩ => ⟨_, e _ rfl h, q.kq k⟩
theorem SlOk.kq {H H' : Hp} {A A' : Ax} {x : Option V} {s : Sl} {o : Option Addr} (k : Kq H A H' A') (e : ∀ a u, isMu u = true → o = some a → H a = some u → H' a = some u) (h : SlOk H A x s o) : SlOk H' A' x s o := by
  cases h with
  | un => exact .un
  | val q => exact .val (q.kq k)
  | own q => exact .own (q.kq k fun u m z => e _ u m rfl z)
theorem SlsOk.kq {H H' : Hp} {A A' : Ax} (k : Kq H A H' A') : ∀ {σ : Sg} {env : En} {as : List (Option Addr)}, (∀ a u, isMu u = true → some a ∈ as → H a = some u → H' a = some u) → SlsOk H A σ env as → SlsOk H' A' σ env as
  | _, _, _, _, .nil => .nil
  | _, _, _, e, .cons h t => .cons (h.kq k fun a u m z => e a u m (by rw [z]; exact List.mem_cons_self)) (SlsOk.kq k (fun a u m z => e a u m (List.mem_cons_of_mem _ z)) t)

section
variable {F : Fm} {H H' : Hp} {σ : Sg} {env : En} {as as' : List (Option Addr)} {d : Addr} {u : HO} {od : Obj}
theorem mu_notTup (m : isMu u = true) : (∀ xs, u ≠ .tup xs) ∧ (∀ o v, u ≠ .frz o v) := by
  constructor
  · rintro xs rfl; cases m
  · rintro o v rfl; cases m
/-- a dict; not a list (a list is told by its object, locked or not) -/
def isDi : HO → Bool
  | .dK _ => true
  | .dT _ => true
  | _ => false
theorem tp_di : ∀ u : TpO, isDi u.1 = false
  | ⟨.tup _, _⟩ => rfl
  | ⟨.frz _ _, _⟩ => rfl
theorem isDi.mu (m : isDi u = true) : isMu u = true := by cases u <;> first | rfl | cases m
theorem lock_kp {A : Ax} (h : H d = some u) (m : isDi u = true) : Kp H A (L2.upd H d (.frz od u)) A := by
  have ne : ∀ {b o}, H b = some o → isDi o = false → b ≠ d := fun {b o} e n z => by
    rw [z, h] at e; cases e; rw [m] at n; cases n
  refine ⟨rfl, fun a xs e _ => ?_, fun a xs e _ => ?_, fun a v e _ => ?_, fun _ _ n => n⟩
  · rw [upd_ne (ne e (tp_di xs))]; exact e
  · rw [upd_ne (ne e rfl)]; exact e
  · by_cases z : a = d
    · rcases e with e | ⟨o, e⟩
      · rw [z, h] at e
        cases e
        exact .inr ⟨od, by rw [z, upd_same]⟩
      · rw [z, h] at e; cases e; cases m
    · rcases e with e | ⟨o, e⟩
      · exact .inl (by rw [upd_ne z]; exact e)
      · exact .inr ⟨o, by rw [upd_ne z]; exact e⟩
theorem unlock_kq {A : Ax} (h : H d = some (.frz od u)) (m : isDi u = true) : Kq H A (L2.upd H d u) A := by
  have ne : ∀ {b o}, H b = some o → (∀ z v, o ≠ .frz z v) → b ≠ d := fun {b o} e n z => by
    rw [z, h] at e; cases e; exact n _ _ rfl
  refine ⟨rfl, fun a xs e _ => ?_, fun a xs e _ => ?_, fun a v mv e _ => ?_, fun _ _ n => n⟩
  · rw [upd_ne (show a ≠ d from fun z => ?_)]
    · exact e
    · rw [z, h] at e
      have e' := Option.some.inj e
      have t := xs.2
      rw [← e'] at t
      cases u <;> first | exact Bool.noConfusion m | exact Bool.noConfusion t
  · rw [upd_ne (ne e fun _ _ z => nomatch z)]; exact e
  · by_cases z : a = d
    · rcases e with e | ⟨o, e⟩
      · rw [z, h] at e; cases e; cases mv
      · rw [z, h] at e
        cases e
        exact .inl (by rw [z, upd_same])
    · rcases e with e | ⟨o, e⟩
      · exact .inl (by rw [upd_ne z]; exact e)
      · exact .inr ⟨o, by rw [upd_ne z]; exact e⟩
theorem upd_dom {o : HO} (b : Addr) (h : H b ≠ none) : L2.upd H d o b ≠ none := by
  by_cases e : b = d
  · rw [e, upd_same]; exact fun z => nomatch z
  · rw [upd_ne e]; exact h
theorem EnvOk.lock (E : EnvOk F H σ env as) (h : H d = some u) (m : isDi u = true) (n : ¬ Av as F.B d) : EnvOk F (L2.upd H d (.frz od u)) σ env as := by
  have ne : ∀ b, Av as F.B b → b ≠ d := fun b z e => n (e ▸ z)
  exact ⟨E.sl.kp (lock_kp h m) fun a u z e => by rw [upd_ne (ne a (Or.inl z))]; exact e, E.nd, E.ap, fun a z => let ⟨o, e, m⟩ := E.bd a z; ⟨o, by rw [upd_ne (ne a (Or.inr z))]; exact e, m⟩, E.pin, E.io, E.fr, fun a z => upd_dom a (E.dom a z)⟩
theorem EnvOk.unlock (E : EnvOk F H σ env as) (h : H d = some (.frz od u)) (m : isDi u = true) (n : ¬ Av as F.B d) : EnvOk F (L2.upd H d u) σ env as := by
  have ne : ∀ b, Av as F.B b → b ≠ d := fun b z e => n (e ▸ z)
  exact ⟨E.sl.kq (unlock_kq h m) fun a u _ z e => by rw [upd_ne (ne a (Or.inl z))]; exact e, E.nd, E.ap, fun a z => let ⟨o, e, m⟩ := E.bd a z; ⟨o, by rw [upd_ne (ne a (Or.inr z))]; exact e, m⟩, E.pin, E.io, E.fr, fun a z => upd_dom a (E.dom a z)⟩
/-- behind what ran under the lock -/
theorem lock_step (h : H d = some u) (n : some d ∉ as) (S : Step as (L2.upd H d (.frz od u)) as' H') : H' d = some (.frz od u) ∧ some d ∉ as' ∧ Step as H as' (L2.upd H' d u) := by
  have hd := S.keep d _ upd_same n
  have nd : some d ∉ as' := fun z => (S.new d z).elim n fun z => by rw [upd_same] at z; cases z
  refine ⟨hd, nd, fun b o e nb => ?_, fun b e => upd_dom b (S.dom b (upd_dom b e)), fun b z => ?_⟩
  · by_cases z : b = d
    · rw [z, upd_same, ← e, z, h]
    · rw [upd_ne z]
      exact S.keep b o (by rw [upd_ne z]; exact e) nb
  · refine (S.new b z).imp id fun q => ?_
    have ne : b ≠ d := fun e => nd (e ▸ z)
    rw [upd_ne ne] at q
    exact q
end

/-! ### statements and expressions under a lock -/
def FrzAt (i : Nat) (σ : Sg) (H : Hp) : Prop := ∃ d od u, σ[i]? = some (some (.ref d)) ∧ H d = some (.frz od u)
def tSl (K : PySem.W.Frag) (f : FS) (i : Nat) : TS := fun D σ H => FrzAt i σ H ∧ tS K f D σ H
def tFl (K : PySem.W.Frag) (f : FE) (i : Nat) : TE := fun σ H Q => FrzAt i σ H ∧ tF K f σ H Q
def tIl (K : PySem.W.Frag) (f : FI) (i : Nat) : TI := fun σ H R => FrzAt i σ H ∧ tI K f σ H R
/-- the slot i holds a dict that nobody writes -/
def isDat (i : Nat) (env : En) : Prop := (∃ kvs, env[i]? = some (.val (.dT kvs))) ∨ ∃ kvs, env[i]? = some (.val (.dK kvs))
theorem dat_at {F : Fm} {H : Hp} {σ : Sg} {env : En} {as : List (Option Addr)} {i : Nat} (E : EnvOk F H σ env as) (h : isDat i env) : ∃ d u, σ[i]? = some (some (.ref d)) ∧ Rd H d u ∧ isDi u = true ∧ ¬ Av as F.B d := by
  rcases h with ⟨kvs, h⟩ | ⟨kvs, h⟩
  · obtain ⟨x, o, h1, h2, h3⟩ := E.sl.at h
    cases h3 with
    | val q => cases q with
      | dT r n s => exact ⟨_, _, h1, r, rfl, n⟩
  · obtain ⟨x, o, h1, h2, h3⟩ := E.sl.at h
    cases h3 with
    | val q => cases q with
      | dK r n s => exact ⟨_, _, h1, r, rfl, n⟩
section
variable {X : Cx} {st : Stmt} {f : FS} {i : Nat} {e : Expr} {fe : FE}
theorem PS.or {t t' : TS} (h : PS X st t) (h' : PS X st t') : PS X st (fun D σ H => t D σ H ∨ t' D σ H) := ⟨fun pins s σ H D I q => q.elim (h.run pins s σ H D I) (h'.run pins s σ H D I)⟩
theorem PE.or {t t' : TE} (h : PE X e t) (h' : PE X e t') : PE X e (fun σ H Q => t σ H Q ∨ t' σ H Q) := ⟨fun pins s σ H Q I q => q.elim (h.run pins s σ H Q I) (h'.run pins s σ H Q I)⟩
theorem isDi.mut {u : HO} (m : isDi u = true) : Mut (some u) := by cases u <;> first | exact True.intro | cases m
theorem ds_lock (h : PS X st (tSl X.K f i)) (hf : ∀ env o, f env = some o → isDat i env) : PS X st (tS X.K f) := by
  refine PS.weak (PS.or h (ps_lock h)) ?_
  rintro D σ H ⟨F, env, as, o, hK, E, ef, q⟩
  obtain ⟨d, u, hd, r, m, n⟩ := dat_at E (hf env o ef)
  rcases r with r | ⟨od, r⟩
  · refine .inr ⟨d, u, r, (isDi.mut m), fun od => ⟨⟨d, od, u, hd, upd_same⟩, F, env, as, o, hK, E.lock r m n, ef, ?_⟩⟩
    have nd : some d ∉ as := fun z => n (Or.inl z)
    have nB : ¬ F.B d := fun z => n (Or.inr z)
    have fin : ∀ {σ' H' e as'}, EnvOk F H' σ' e as' → Step as (L2.upd H d (.frz od u)) as' H' → H' d = some (.frz od u) ∧ EnvOk F (L2.upd H' d u) σ' e as' ∧ Step as H as' (L2.upd H' d u) := fun {σ' H' e as'} E' S' => by
      obtain ⟨h1, h2, h3⟩ := lock_step r nd S'
      exact ⟨h1, E'.unlock h1 m fun z => z.elim h2 nB, h3⟩
    cases o with
    | nx e => exact fun σ' H' as' E' S' => let ⟨h1, h2, h3⟩ := fin E' S'; ⟨h1, q σ' _ as' h2 h3⟩
    | bk e => exact fun σ' H' as' E' S' => let ⟨h1, h2, h3⟩ := fin E' S'; ⟨h1, q σ' _ as' h2 h3⟩
    | ct e => exact fun σ' H' as' E' S' => let ⟨h1, h2, h3⟩ := fin E' S'; ⟨h1, q σ' _ as' h2 h3⟩
    | rt fr dd e =>
      intro v σ' H' as' R S'
      cases fr with
      | false =>
        obtain ⟨h1, h2, h3⟩ := fin R.1 S'
        exact ⟨h1, q v σ' _ as' ⟨h2, R.2.kq (unlock_kq h1 m)⟩ h3⟩
      | true =>
        obtain ⟨a, rfl, h0, E', nw⟩ := R
        obtain ⟨h1, nd', h3⟩ := lock_step r nd S'
        have ha : a ≠ d := fun z => by
          have mu := nw.o.mu
          obtain ⟨o, e, mo⟩ := mu
          rw [z, h1] at e
          cases e
          cases mo
        refine ⟨h1, q _ σ' _ as' ⟨a, rfl, h0, E'.unlock h1 m fun z => z.elim nd' fun z => z.elim nB fun z => ha z.symm, nw.n, nw.o.kq (unlock_kq h1 m) fun o _ e => by rw [upd_ne ha]; exact e⟩ h3⟩
  · exact .inl ⟨⟨d, od, u, hd, r⟩, F, env, as, o, hK, E, ef, q⟩
theorem de_lockF (h : PE X e (tFl X.K fe i)) (hf : ∀ env o, fe env = some o → isDat i env) : PE X e (tF X.K fe) := by
  refine PE.weak (PE.or h (pe_lock h)) ?_
  rintro σ H Q ⟨F, env, as, o, env', hK, E, ef, q⟩
  obtain ⟨d, u, hd, r, m, n⟩ := dat_at E (hf env _ ef)
  rcases r with r | ⟨od, r⟩
  · refine .inr ⟨d, u, r, (isDi.mut m), fun od => ⟨⟨d, od, u, hd, upd_same⟩, F, env, as, o, env', hK, E.lock r m n, ef, ?_⟩⟩
    intro a H' as' E' S' h0 nw
    have nd : some d ∉ as := fun z => n (Or.inl z)
    have nB : ¬ F.B d := fun z => n (Or.inr z)
    obtain ⟨h1, nd', h3⟩ := lock_step r nd S'
    have ha : a ≠ d := fun z => by
      rw [z, upd_same] at h0
      cases h0
    rw [upd_ne ha] at h0
    exact ⟨h1, q a _ as' (E'.unlock h1 m fun z => z.elim nd' fun z => z.elim nB fun z => ha z.symm) h3 h0 ⟨nw.n, nw.o.kq (unlock_kq h1 m) fun o _ e => by rw [upd_ne ha]; exact e⟩⟩
  · exact .inl ⟨⟨d, od, u, hd, r⟩, F, env, as, o, env', hK, E, ef, q⟩
end

/-! ### walks over a dict in a slot -/
def keyD : Key → D
  | .inl i => .int i
  | .inr x => .str x
def tupK (k : List Key) : D := .tup (k.map keyD)
theorem keyD_is {H : Hp} {A : Ax} : ∀ k : Key, IsD H A (kV k) (keyD k)
  | .inl i => .int i
  | .inr x => .str x
theorem keysD_is {H : Hp} {A : Ax} : ∀ k : List Key, IsDs H A (k.map kV) (k.map keyD)
  | [] => .nil
  | x :: k => .cons (keyD_is x) (keysD_is k)
def fiKeysV (i : Nat) : FI := fun env => match env[i]? with
  | some (.val (.dT kvs)) => some (kvs.map (fun p => tupK p.1), env)
  | some (.val (.dK kvs)) => some (kvs.map (fun p => keyD p.1), env)
  | _ => none
theorem IsTs.get {H : Hp} {A : Ax} : ∀ {vs : List (List Key × V)} {ds : List (List Key × D)} {i : Nat} {p : List Key × D}, IsTs H A vs ds → ds[i]? = some p → ∃ v, vs[i]? = some (p.1, v) ∧ IsD H A v p.2
  | _, _, _, _, .nil, e => by simp at e
  | _, _, 0, _, .cons h _, e => by simp at e; subst e; exact ⟨_, rfl, h⟩
  | _, _, i + 1, _, .cons _ t, e => by
    obtain ⟨v, h1, h2⟩ := IsTs.get (i := i) t (by simpa using e)
    exact ⟨v, by simpa using h1, h2⟩
theorem IsKs.get {H : Hp} {A : Ax} : ∀ {vs : List (Key × V)} {ds : List (Key × D)} {i : Nat} {p : Key × D}, IsKs H A vs ds → ds[i]? = some p → ∃ v, vs[i]? = some (p.1, v) ∧ IsD H A v p.2
  | _, _, _, _, .nil, e => by simp at e
  | _, _, 0, _, .cons h _, e => by simp at e; subst e; exact ⟨_, rfl, h⟩
  | _, _, i + 1, _, .cons _ t, e => by
    obtain ⟨v, h1, h2⟩ := IsKs.get (i := i) t (by simpa using e)
    exact ⟨v, by simpa using h1, h2⟩
theorem IsTs.length' {H : Hp} {A : Ax} : ∀ {vs : List (List Key × V)} {ds : List (List Key × D)}, IsTs H A vs ds → vs.length = ds.length
  | _, _, .nil => rfl
  | _, _, .cons _ t => by rw [List.length_cons, List.length_cons, IsTs.length' t]
theorem IsKs.length' {H : Hp} {A : Ax} : ∀ {vs : List (Key × V)} {ds : List (Key × D)}, IsKs H A vs ds → vs.length = ds.length
  | _, _, .nil => rfl
  | _, _, .cons _ t => by rw [List.length_cons, List.length_cons, IsKs.length' t]
theorem tup_clear {H : Hp} {A : Ax} (hA : ∀ a, A a → ∃ o, H a = some o ∧ isMu o = true) {a : Addr} {xs : List V} (h : H a = some (.tup xs)) : ¬ A a := fun z => by
  obtain ⟨o, e, m⟩ := hA a z
  rw [h] at e
  cases e
  cases m
theorem iter_keysT {H : Hp} {A : Ax} {d : Addr} {o : Obj} {kvs : List (List Key × V)} {ds : List (List Key × D)} (h : H d = some (.frz o (.dT kvs))) (n : ¬ A d) (s : IsTs H A kvs ds) : IterD (Itkt d o kvs) (ds.map fun p => tupK p.1) H A := by
  intro i Hi A' k hA
  have r := k.keep _ _ h n
  refine ⟨fun dd e => ?_, fun hl => ⟨r, by rw [List.length_map, ← s.length'] at hl; exact hl⟩⟩
  rw [List.getElem?_map] at e
  cases e0 : ds[i]? with
  | none => rw [e0] at e; cases e
  | some p =>
    rw [e0] at e
    cases e
    obtain ⟨v, e1, i1⟩ := s.get e0
    refine ⟨⟨r, (List.getElem?_eq_some_iff.mp e1).1⟩, fun x H' y => ?_⟩
    obtain ⟨rfl, kk, vv, q, e2, rfl, hq⟩ := y
    rw [e1] at e2
    cases e2
    exact ⟨Gr.refl _, .tup hq (tup_clear hA hq) (keysD_is _)⟩
theorem iter_keysK {H : Hp} {A : Ax} {d : Addr} {o : Obj} {kvs : List (Key × V)} {ds : List (Key × D)} (h : H d = some (.frz o (.dK kvs))) (n : ¬ A d) (s : IsKs H A kvs ds) : IterD (Itk d o kvs) (ds.map fun p => keyD p.1) H A := by
  intro i Hi A' k hA
  have r := k.keep _ _ h n
  refine ⟨fun dd e => ?_, fun hl => ⟨r, by rw [List.length_map, ← s.length'] at hl; exact hl⟩⟩
  rw [List.getElem?_map] at e
  cases e0 : ds[i]? with
  | none => rw [e0] at e; cases e
  | some p =>
    rw [e0] at e
    cases e
    obtain ⟨v, e1, i1⟩ := s.get e0
    refine ⟨⟨r, (List.getElem?_eq_some_iff.mp e1).1⟩, fun x H' y => ?_⟩
    obtain ⟨rfl, kk, vv, e2, rfl⟩ := y
    rw [e1] at e2
    cases e2
    exact ⟨Gr.refl _, keyD_is _⟩
section
variable {X : Cx} {tg : Expr} {x : Str} {pos : Pos} {i : Nat}
theorem frz_rd {H : Hp} {d : Addr} {od : Obj} {u v : HO} (h : H d = some (.frz od u)) (m : isMu v = true) (r : Rd H d v) : u = v := by
  rcases r with r | ⟨o, r⟩
  · rw [h] at r; cases r; cases m
  · rw [h] at r; cases r; rfl
theorem di_keysV (i : Nat) (hN : X.N[i]? = some x := by rfl) (hv : Vis X.env.scope x := by first | exact Or.inl rfl | exact Or.inr (Or.inl rfl) | exact Or.inr (Or.inr rfl)) (hd : (x == ("__debug__" : Str)) = false := by decide)
    (hcd : (x == ("__classdict__" : Str)) = false := by decide) : PI X tg (.Name x pos) (tIl X.K (fiKeysV i) i) := by
  refine PI.weak (pi_keys (pe_var (i := i) hN hv hd hcd)) ?_
  rintro σ H R ⟨⟨d, od, u, hd, hf⟩, F, env, as, ds, env', hK, E, ef, q⟩
  refine ⟨_, hd, d, od, rfl, ?_⟩
  unfold fiKeysV at ef
  split at ef
  · rename_i kvs e
    cases ef
    obtain ⟨x0, o0, h1, h2, h3⟩ := E.sl.at e
    rw [hd] at h1
    cases h1
    cases h3 with
    | val z => cases z with
      | dT r n s =>
        cases frz_rd hf rfl r
        exact .inr ⟨_, hf, q _ H as E (Step.refl _ _) (iter_keysT hf n s)⟩
  · rename_i kvs e
    cases ef
    obtain ⟨x0, o0, h1, h2, h3⟩ := E.sl.at e
    rw [hd] at h1
    cases h1
    cases h3 with
    | val z => cases z with
      | dK r n s =>
        cases frz_rd hf rfl r
        exact .inl ⟨_, hf, q _ H as E (Step.refl _ _) (iter_keysK hf n s)⟩
  · cases ef
theorem keysV_dat {env : En} {o : List D × En} (h : fiKeysV i env = some o) : isDat i env := by
  unfold fiKeysV at h
  split at h
  · exact .inl ⟨_, by assumption⟩
  · exact .inr ⟨_, by assumption⟩
  · cases h
end
section
variable {X : Cx} {pos : Pos} {elt tg iter : Expr} {ifs : List Expr} {scope : Scope} {own : List (Str × Nat)} {fi : FI} {g : FG} {gv : List Nat} {t : FT} {f : FE} {i : Nat}
theorem ds_forL {body : List Stmt} {f : FS} (hfi : ∀ env o, fi env = some o → isDat i env) (hp : PassesOwn (model X.prog X.w) X.A X.env X.xe) (hc : X.calm = true) (hi : PI X tg iter (tIl X.K fi i)) (hg : PG X tg (tG X.K g gv)) (hb : PSs X body (tS X.K f))
    (hs : ∀ x, foldedSetIterable iter X.env x = pure x := by intro _; rfl) : PS X (.For tg iter body [] pos) (tS X.K (fFor fi g f)) :=
  ds_lock (i := i) (PS.weak (ps_for hp hc hi hg hb hs) fun _ _ _ h => ⟨h.1, for_of h.2⟩) fun env o h => by
    unfold fFor at h
    cases r : fi env with
    | none => rw [r] at h; cases h
    | some p => exact hfi env p r
theorem fComp_fi {vs : List Nat} {env : En} {o : D × En} (h : fComp fi g t f vs env = some o) : ∃ p, fi env = some p := by
  unfold fComp at h
  cases r : fi env with
  | none => rw [r] at h; cases h
  | some p => exact ⟨p, rfl⟩
theorem df_compL (hfi : ∀ env o, fi env = some o → isDat i env) (hc : X.calm = true) (hN : X.N.Nodup) (hi : PI X tg iter (tIl X.K fi i)) (ok : BlkOk X.N X.env.scope scope own) (hgv : ∀ i ∈ gv, i ∈ own.map (·.2))
    (hg : ∀ (s : Shared) (H : Hp) (C : Addr) (cl : List (Str × Addr)) (fp : List Addr), PG (X.blk s H scope (compEnvC scope cl C X.env) fp) tg (tG X.K g gv)) (ht : ∀ (s : Shared) (H : Hp) (C : Addr) (cl : List (Str × Addr)) (fp : List Addr), PTs (X.blk s H scope (compEnvC scope cl C X.env) fp) ifs (tT X.K t))
    (he : ∀ (s : Shared) (H : Hp) (C : Addr) (cl : List (Str × Addr)) (fp : List Addr), PE (X.blk s H scope (compEnvC scope cl C X.env) fp) elt (tD X.K f)) (hs : ∀ x, foldedSetIterable iter X.env x = pure x := by intro _; rfl) :
    PE X (.ListComp elt [⟨tg, iter, ifs, 0⟩] scope pos) (tF X.K (fComp fi g t f (own.map (·.2)))) :=
  de_lockF (i := i) (PE.weak (pe_lc hc hN hi ok hg ht he hs) fun σ H Q h => ⟨h.1, lc_of hgv h.2⟩) fun env o h => let ⟨p, e⟩ := fComp_fi h; hfi env p e
theorem ds_setLcL {j : Nat} {y : Str} {py spos : Pos} (hfi : ∀ env o, fi env = some o → isDat i env) (hc : X.calm = true) (hN : X.N.Nodup) (hy : X.N[j]? = some y) (hyl : X.env.scope.names.lookup y = some .local)
    (hsw : swapsWith (.ListComp elt [⟨tg, iter, ifs, 0⟩] scope pos) (some (.Name y py)) spos.line X.env = pure true) (hi : PI X tg iter (tIl X.K fi i)) (ok : BlkOk X.N X.env.scope scope own) (hgv : ∀ i ∈ gv, i ∈ own.map (·.2))
    (hg : ∀ (s : Shared) (H : Hp) (C : Addr) (cl : List (Str × Addr)) (fp : List Addr), PG (X.blk s H scope (compEnvC scope cl C X.env) fp) tg (tG X.K g gv)) (ht : ∀ (s : Shared) (H : Hp) (C : Addr) (cl : List (Str × Addr)) (fp : List Addr), PTs (X.blk s H scope (compEnvC scope cl C X.env) fp) ifs (tT X.K t))
    (he : ∀ (s : Shared) (H : Hp) (C : Addr) (cl : List (Str × Addr)) (fp : List Addr), PE (X.blk s H scope (compEnvC scope cl C X.env) fp) elt (tD X.K f)) (hs : ∀ x, foldedSetIterable iter X.env x = pure x := by intro _; rfl) :
    PS X (.Assign [.Name y py] (.ListComp elt [⟨tg, iter, ifs, 0⟩] scope pos) spos) (tS X.K (fSetO j (fComp fi g t f (own.map (·.2))))) :=
  ds_lock (i := i) (PS.weak (ps_setLc hc hN hy hyl hsw hi ok hg ht he hs) fun _ _ _ h => ⟨h.1, sSetO_of (fun _ _ _ z => lc_of hgv z) h.2⟩) fun env o h => by
    unfold fSetO at h
    cases r : fComp fi g t f (own.map (·.2)) env with
    | none => rw [r] at h; cases h
    | some p =>
      obtain ⟨q, e⟩ := fComp_fi r
      exact hfi env q e
end
end DL
/-! The data layer: minus, chained comparisons, fresh conditionals, ranges as lists, small dict displays. -/
namespace DL
open PySem PySem.Spec PyProof.Rows L2

section
variable {X : Cx} {a b c : Expr} {pos p : Pos} {f f1 f2 : FE}
def fNeg (f : FE) : FE := fun env => match f env with
  | some (.int i, e) => some (.int (-i), e)
  | _ => none
theorem de_neg (ha : PE X a (tD X.K f)) : PE X (.UnaryOp .USub a pos) (tD X.K (fNeg f)) := by
  refine PE.weak (pe_un un_neg ha) ?_
  rintro σ H Q ⟨F, env, as, d, env', hK, E, ef, q⟩
  unfold fNeg at ef
  split at ef
  · rename_i i e r
    cases ef
    exact ⟨F, env, as, _, _, hK, E, r, fun v H1 as1 E1 S1 i1 => by
      cases i1 with
      | int => exact ⟨i, rfl, q _ H1 as1 E1 S1 (.int _)⟩⟩
  · cases ef
/-- the shorter end of a chain -/
theorem chain_of {K : PySem.W.Frag} {r r' : R2} {g g' : D → D → Option D} (hr : G2 K r g) (hr' : G2 K r' g') {fa fb fc : FE} {σ : Sg} {H : Hp} {Q : VK} (h : tD K (fChain g g' fa fb fc) σ H Q) : tChain r r' (tD K fa) (tD K fb) (tD K fc) σ H Q := by
  obtain ⟨F, env, as, d, env', hK, E, ef, q⟩ := h
  unfold fChain at ef
  cases r1 : fa env with
  | none => rw [r1] at ef; cases ef
  | some p1 =>
    obtain ⟨x, e1⟩ := p1
    simp only [r1] at ef
    cases r2 : fb e1 with
    | none => rw [r2] at ef; cases ef
    | some p2 =>
      obtain ⟨y, e2⟩ := p2
      simp only [r2] at ef
      refine ⟨F, env, as, x, e1, hK, E, r1, fun v H1 as1 E1 S1 i1 => ⟨F, e1, as1, y, e2, hK, E1, r2, fun u H2 as2 E2 S2 i2 => ?_⟩⟩
      split at ef
      · rename_i r3
        refine hr H2 (Av as2 F.B) v u x y _ _ hK E2.av (.d (i1.st S2)) (.d i2) r3 fun z H3 g3 i3 => ?_
        cases i3
        refine ⟨true, rfl, ?_⟩
        rw [if_pos rfl]
        cases r4 : fc e2 with
        | none => rw [r4] at ef; cases ef
        | some p4 =>
          obtain ⟨w, e3⟩ := p4
          simp only [r4] at ef
          refine ⟨F, e2, as2, w, e3, hK, E2.gr g3, r4, fun w' H4 as4 E4 S4 i4 => ?_⟩
          cases r5 : g' y w with
          | none => rw [r5] at ef; cases ef
          | some dd =>
            rw [r5] at ef
            cases ef
            exact hr' H4 (Av as4 F.B) u w' y w _ _ hK E4.av (.d ((i2.kp (g3.kp _)).st S4)) (.d i4) r5 fun z H5 g5 i5 => q z H5 as4 (E4.gr g5) ((((S1.trans S2).trans (g3.step as2)).trans S4).trans (g5.step as4)) i5
      · rename_i r3
        cases ef
        refine hr H2 (Av as2 F.B) v u x y _ _ hK E2.av (.d (i1.st S2)) (.d i2) r3 fun z H3 g3 i3 => ?_
        cases i3
        refine ⟨false, rfl, ?_⟩
        rw [if_neg Bool.false_ne_true]
        exact q _ H3 as2 (E2.gr g3) ((S1.trans S2).trans (g3.step as2)) (.bl _)
      · cases ef
theorem de_chain {op op' : CmpOp} {r r' : R2} {g g' : D → D → Option D} {fa fb fc : FE} (ho : OpR X (compareOp op) r) (ho' : OpR X (compareOp op') r') (hr : G2 X.K r g) (hr' : G2 X.K r' g') (ha : PE X a (tD X.K fa)) (hb : PE X b (tD X.K fb)) (hc : PE X c (tD X.K fc))
    (hm : lastMarks [op, op'] [b, c] = false := by with_unfolding_all rfl) : PE X (.Compare a [op, op'] [b, c] pos) (tD X.K (fChain g g' fa fb fc)) := PE.weak (pe_chain ho ho' ha hb hc hm) fun _ _ _ h => chain_of hr hr' h
def ftOf (f : FE) : FT := fun env => match f env with
  | some (.bl b, e) => some (b, e)
  | _ => none
theorem test_of {K : PySem.W.Frag} {te : TE} {f : FE} (w : ∀ σ H Q, tD K f σ H Q → te σ H Q) {σ : Sg} {H : Hp} {Q : Bool → Hp → Prop} (h : tT K (ftOf f) σ H Q) : tTest te σ H Q := by
  obtain ⟨F, env, as, d, env', hK, E, ef, q⟩ := h
  unfold ftOf at ef
  split at ef
  · rename_i b e r
    cases ef
    exact w σ H _ ⟨F, env, as, _, _, hK, E, r, fun v H1 as1 E1 S1 i1 => by
      cases i1 with
      | bl => exact ⟨d, rfl, q H1 as1 E1 S1⟩⟩
  · cases ef
theorem dt_chain {op op' : CmpOp} {r r' : R2} {g g' : D → D → Option D} {fa fb fc : FE} (ho : OpR X (compareOp op) r) (ho' : OpR X (compareOp op') r') (hr : G2 X.K r g) (hr' : G2 X.K r' g') (ha : PE X a (tD X.K fa)) (hb : PE X b (tD X.K fb)) (hc : PE X c (tD X.K fc))
    (hm : lastMarks [op, op'] [b, c] = false := by with_unfolding_all rfl) : PT X (.Compare a [op, op'] [b, c] pos) (tT X.K (ftOf (fChain g g' fa fb fc))) := PT.weak (pt_chain ho ho' ha hb hc hm) fun _ _ _ h => test_of (fun _ _ _ h => chain_of hr hr' h) h
theorem df_if {t : FT} (hc : PT X c (tT X.K t)) (ha : PE X a (tF X.K f1)) (hb : PE X b (tF X.K f2)) : PE X (.IfExp c a b pos) (tF X.K (feIf t f1 f2)) := by
  refine PE.weak (pe_ifExp hc ha hb) ?_
  rintro σ H Q ⟨F, env, as, d, env', hK, E, ef, q⟩
  have back : ∀ {as1 : List (Option Addr)} {H1 : Hp}, Step as H as1 H1 → ∀ {a : Addr}, H1 a = none → H a = none := fun {as1 H1} S {a} h => by
    cases z : H a with
    | none => rfl
    | some o => exact absurd h (S.dom a (some_ne z))
  unfold feIf at ef
  cases r : t env with
  | none => rw [r] at ef; cases ef
  | some p =>
    obtain ⟨k, e1⟩ := p
    rw [r] at ef
    refine ⟨F, env, as, k, e1, hK, E, r, fun H1 as1 E1 S1 => ?_⟩
    cases k with
    | true => rw [if_pos rfl]; exact ⟨F, e1, as1, d, env', hK, E1, ef, fun v H2 as2 E2 S2 n i2 => q v H2 as2 E2 (S1.trans S2) (back S1 n) i2⟩
    | false => rw [if_neg Bool.false_ne_true]; exact ⟨F, e1, as1, d, env', hK, E1, ef, fun v H2 as2 E2 S2 n i2 => q v H2 as2 E2 (S1.trans S2) (back S1 n) i2⟩

/-! ### list(range(..)), tuple(range(..)) -/
def fRg1 (f : FE) : En → Option ((Int × Int) × En) := fun env => match f env with
  | some (.int n, e) => some ((0, n), e)
  | _ => none
def fRg2 (f g : FE) : En → Option ((Int × Int) × En) := fun env => match f env with
  | some (.int i, e) => match g e with
    | some (.int j, e2) => some ((i, j), e2)
    | _ => none
  | _ => none
def rgOk (a b : Int) : Bool := decide (-(2 ^ 62) ≤ a) && decide (a < 2 ^ 62) && decide (-(2 ^ 62) ≤ b) && decide (b < 2 ^ 62) && decide ((b - a).toNat ≤ mx)
theorem rgOk_of {a b : Int} (h : rgOk a b = true) : RgOk a b := by
  unfold rgOk at h
  simp only [Bool.and_eq_true, decide_eq_true_eq] at h
  obtain ⟨⟨⟨⟨h1, h2⟩, h3⟩, h4⟩, h5⟩ := h
  exact ⟨h1, h2, h3, h4, Nat.le_trans h5 (by decide)⟩
def fLstRg (w : D → D) (r : En → Option ((Int × Int) × En)) : FE := fun env => match r env with
  | some (p, e) => if rgOk p.1 p.2 then some (.lst (rngD p.1 (p.2 - p.1).toNat), e) else none
  | none => none
def fTupRg (r : En → Option ((Int × Int) × En)) : FE := fun env => match r env with
  | some (p, e) => if rgOk p.1 p.2 then some (.tup (rngD p.1 (p.2 - p.1).toNat), e) else none
  | none => none
theorem rgV_is {H : Hp} {A : Ax} (lo hi : Int) : IsDs H A (rgV lo hi) (rngD lo (hi - lo).toNat) := by
  unfold rgV rngD
  have : ∀ l : List Nat, IsDs H A (l.map fun i => V.int (lo + (i : Nat))) (l.map fun i => D.int (lo + (i : Nat))) := by
    intro l
    induction l with
    | nil => exact .nil
    | cons n l ih => exact .cons (.int _) ih
  exact this _
def tRg (K : PySem.W.Frag) (r : En → Option ((Int × Int) × En)) : L2.St → Hp → (Int → Int → Hp → Prop) → Prop := fun σ H Q => ∃ F env as p env', F.B.K = K ∧ EnvOk F H σ env as ∧ r env = some (p, env') ∧ ∀ H' as', EnvOk F H' σ env' as' → Step as H as' H' → Q p.1 p.2 H'
theorem PRg.weak {e : Expr} {t t' : L2.St → Hp → (Int → Int → Hp → Prop) → Prop} (h : PRg X e t) (w : ∀ σ H Q, t' σ H Q → t σ H Q) : PRg X e t' := fun pins s σ H Q I q => h pins s σ H Q I (w σ H Q q)
theorem drg_1 (hg : Gl X "range") (hm : X.mg "range" = none) (ha : PE X a (tD X.K f)) (na : starEach [a] X.env = (false, eval a X.env) :: starEach [] X.env := by rfl) : PRg X (.Call (.Name "range" p) [a] [] pos) (tRg X.K (fRg1 f)) := by
  refine PRg.weak (prg_1 hg hm ha na) ?_
  rintro σ H Q ⟨F, env, as, pr, env', hK, E, ef, q⟩
  unfold fRg1 at ef
  split at ef
  · rename_i n e r
    cases ef
    exact ⟨F, env, as, _, _, hK, E, r, fun v H1 as1 E1 S1 i1 => by
      cases i1 with
      | int => exact ⟨_, rfl, q H1 as1 E1 S1⟩⟩
  · cases ef
theorem drg_2 (hg : Gl X "range") (hm : X.mg "range" = none) (ha : PE X a (tD X.K f1)) (hb : PE X b (tD X.K f2)) (na : starEach [a, b] X.env = (false, eval a X.env) :: starEach [b] X.env := by rfl)
    (nb : starEach [b] X.env = (false, eval b X.env) :: starEach [] X.env := by rfl) (hp : (backTo pos (starEach [b] X.env)).any (·.1) = false := by rfl) : PRg X (.Call (.Name "range" p) [a, b] [] pos) (tRg X.K (fRg2 f1 f2)) := by
  refine PRg.weak (prg_2 hg hm ha hb na nb hp) ?_
  rintro σ H Q ⟨F, env, as, pr, env', hK, E, ef, q⟩
  unfold fRg2 at ef
  split at ef
  · rename_i i e r
    split at ef
    · rename_i j e2 r2
      cases ef
      exact ⟨F, env, as, _, _, hK, E, r, fun v H1 as1 E1 S1 i1 => ⟨F, _, as1, _, _, hK, E1, r2, fun u H2 as2 E2 S2 i2 => by
        cases i1 with
        | int => cases i2 with
          | int => exact ⟨_, _, rfl, rfl, q H2 as2 E2 (S1.trans S2)⟩⟩⟩
    · cases ef
  · cases ef
theorem df_listRg {e : Expr} {r : En → Option ((Int × Int) × En)} (hc : X.calm = true) (hg : Gl X "list") (hm : X.mg "list" = none) (he : PRg X e (tRg X.K r)) (na : starEach [e] X.env = (false, eval e X.env) :: starEach [] X.env := by rfl) :
    PE X (.Call (.Name "list" p) [e] [] pos) (tF X.K (fLstRg id r)) := by
  refine PE.weak (pe_listRg hc hg hm he na) ?_
  rintro σ H Q ⟨F, env, as, d, env', hK, E, ef, q⟩
  unfold fLstRg at ef
  split at ef
  · rename_i pr e r1
    split at ef
    · rename_i ok
      cases ef
      refine ⟨F, env, as, pr, _, hK, E, r1, fun H1 as1 E1 S1 => ⟨rgOk_of ok, fun a ha => ?_⟩⟩
      have g := Gr.new (o := .lst (rgV pr.1 pr.2)) ha
      refine q a _ as1 (E1.more g ha ⟨_, upd_same, rfl⟩ E1.trk) (S1.trans (g.step _)) ?_ (newAt_lst ha E1.av (rgV_is _ _))
      cases z : H a with
      | none => rfl
      | some o => exact absurd ha (S1.dom a (some_ne z))
    · cases ef
  · cases ef
theorem de_tupRg {e : Expr} {r : En → Option ((Int × Int) × En)} (hc : X.calm = true) (hg : Gl X "tuple") (hm : X.mg "tuple" = none) (he : PRg X e (tRg X.K r)) (na : starEach [e] X.env = (false, eval e X.env) :: starEach [] X.env := by rfl) :
    PE X (.Call (.Name "tuple" p) [e] [] pos) (tD X.K (fTupRg r)) := by
  refine PE.weak (pe_tupRg hc hg hm he na) ?_
  rintro σ H Q ⟨F, env, as, d, env', hK, E, ef, q⟩
  unfold fTupRg at ef
  split at ef
  · rename_i pr e r1
    split at ef
    · rename_i ok
      cases ef
      refine ⟨F, env, as, pr, _, hK, E, r1, fun H1 as1 E1 S1 => ⟨rgOk_of ok, fun a ha => ?_⟩⟩
      have g := Gr.new (o := .tup (rgV pr.1 pr.2)) ha
      exact q _ _ as1 (E1.gr g) (S1.trans (g.step _)) (new_tup ha E1.av (rgV_is _ _))
    · cases ef
  · cases ef
end

/-! ### an entry put -/
theorem keysOf_tup {H : Hp} {A : Ax} {v : V} {ds : List D} {k : List Key} (h : IsD H A v (.tup ds)) (e : keysOf ds = some k) : ∃ b, v = .ref b ∧ H b = some (.tup (k.map kV)) := by
  cases h with
  | tup r n s => exact ⟨_, rfl, by rw [r, keysOf_is s e]⟩
theorem empty_dt {X : Cx} {pins : List (Addr × Obj)} {σ : Sg} {H : Hp} {s : Shared} (I : Inv X pins σ H s) (o : HO) (ho : o = .dK [] ∨ o = .dT []) :
    Inv X pins σ (upd H s.heap.objs.size o) { s with heap := s.heap.push { cls := .type "dict", data := .dict #[] } } := by
  refine I.laid (t' := s.toks) (fun b u e => Heap.get?_push_of_some _ e) (Nat.le_refl _) ?_
  rcases ho with rfl | rfl
  · exact dk_empty s.heap I.big
  · exact dt_empty s.heap I.big
/-- dictSet, by what the dict gets -/
theorem set_dput {X : Cx} {pins : List (Addr × Obj)} {σ : Sg} {H H' : Hp} {s : Shared} {A : Around} {E : Value → Shared → Prop} {D : Addr} {y v : V} {u r : Value} {Q : Unit → Shared → Prop} (hu : A.units + 64 < cLine) (I : Inv X pins σ H s) (g : DPut H D y v H') (ry : RelV y u) (rv : RelV v r)
    (h : ∀ s', Inv X pins σ H' s' → Q () s') : wpAny (model X.prog X.w) A (dictSet D u r) Q E s := by
  rcases g with ⟨kvs, k, e, rfl, l, rfl⟩ | ⟨kvs, k, b, e, rfl, eb, l, rfl⟩
  · obtain ⟨z, hd, vs, rel, dd⟩ := dk_of I.hok e
    have hl : vs.length ≤ sizeLine := by have := rel.length; omega
    refine wpAny_dictSet_pairs (hsz := hl) (kV_is ry) dd fun h' d2 same => h _ ?_
    refine d_write I (by rw [e]; exact True.intro) same (let ⟨q, _, _, hq, _⟩ := d2; ⟨q, hq⟩) (dk_new ?_ hd (rel.put k rv) d2)
    have := length_putK kvs k v
    omega
  · cases ry
    obtain ⟨z, hd, xs, rel, dd⟩ := dt_of I.hok e
    have hl : xs.length ≤ sizeLine := by have := Paired.length rel; omega
    refine wpAny_dictSet_heap (hsz := hl) (show A.units < cLine by omega) (key_of I.hok eb) dd fun h' d2 same => h _ ?_
    obtain ⟨q, es, ep, hq, h2, h3, h4, _, h5⟩ := d2
    refine d_write I (by rw [e]; exact True.intro) same ⟨q, hq⟩ ⟨?_, hd, _, (rel.put k eb rv).keeps fun c ys ec => ?_, q, es, ep, hq, h2, h3, h4, h5⟩
    · have := length_putK kvs k v
      omega
    · rw [upd_ne (ne_of ec e fun z => nomatch z)]; exact ec
end DL
/-! The data layer: dict comprehensions whose keys are ints, texts or tuples of them. -/
namespace DL
open PySem PySem.Spec PyProof.Rows L2

/-- what a dict comprehension is to bring about; z: the empty dict, of the kind that is wanted -/
def tDq (z : HO) (wi : TI) (g : TG) (tt : TT) (tk tv : TE) (vs : List Nat) : TE := fun σ H Q => wi σ H fun J H1 => ∀ D, H1 D = none → ∃ W : Nat → Nat → Hp → Prop, (∃ m, W 0 m (upd H1 D z)) ∧ ∀ i m Hi, W i m Hi →
  (J.stop i Hi ∧ Q (.ref D) Hi) ∨ (J.go i Hi ∧ ∃ Nx : Hp → Prop, (∀ H', Nx H' → ∃ m' < m, W (i + 1) m' H') ∧ ∀ x H', J.yld i Hi x H' → g x (wipe σ vs) H' fun σ2 H2 => wipe σ2 vs = wipe σ vs ∧ tt σ2 H2 fun b H3 =>
    match b with
    | true => tk σ2 H3 fun y H4 => tv σ2 H4 fun v H5 => ∃ H6, DPut H5 D y v H6 ∧ Nx H6
    | false => Nx H3)
/-- between two turns of a block -/
def BlkAt (B : Cx) (fp : List Addr) (tn : Nat → Heap → Prop) (τ : Sg) (W : Nat → Nat → Hp → Prop) (n : Nat) (s : Shared) : Prop := ∃ i H, Inv B [] τ H s ∧ tn i s.heap ∧ (∀ b ∈ fp, H b = none) ∧ W i n H
theorem blk_fp {B : Cx} {fp : List Addr} {τ : Sg} {H : Hp} {s : Shared} (hex : B.ex = fp) (hpn : B.pn = []) (I : Inv B [] τ H s) (hn : ∀ b ∈ fp, H b = none) : ∀ b ∈ fp, FpOk B [] H b := by
  intro b hb
  have hb' : b ∈ B.ex := hex ▸ hb
  refine ⟨hn b hb, (I.ok.exf b hb').1, I.ok.exfs b hb', .inl hb', (I.ok.exf b hb').2, fun p hp => ?_⟩
  rw [hpn] at hp
  cases hp
/-- a turn is over -/
theorem blk_next {B : Cx} {fp : List Addr} {it : Addr} {tg : Expr} {J : It} {tn : Nat → Heap → Prop} {τ σ2 : Sg} {vs : List Nat} {W : Nat → Nat → Hp → Prop} {i n : Nat} {s0 s' : Shared} {H' : Hp} {Nx : Hp → Prop} (T : Turn B.prog B.w B.K tg J fp it tn) (st : tn (i + 1) s0.heap) (hw : wipe σ2 vs = τ)
    (nx : ∀ H', Nx H' → ∃ m' < n, W (i + 1) m' H') (I : Inv B ([] ++ pinsAt fp s0.heap) σ2 H' s') (q : Nx H') : ∃ m, m < n ∧ BlkAt B fp tn τ W m s' := by
  obtain ⟨m', hm, w'⟩ := nx H' q
  have stay : ∀ b ∈ fp, ∀ o, s0.heap.get? b = some o → s'.heap.get? b = some o ∧ H' b = none := fun b hb o e => by
    have := I.pin (b, o) (List.mem_append_right _ (List.mem_append_right _ (mem_pinsAt hb e)))
    exact ⟨this.1, this.2.1⟩
  refine ⟨m', hm, i + 1, H', ?_, T.keep _ _ _ st fun b hb o e => (stay b hb o e).1, fun b hb => ?_, w'⟩
  · subst hw
    exact (I.unpinned (pins := [])).weak (wipe_length σ2 vs) fun j v e => (wipe_some e).1
  · obtain ⟨o, e, _⟩ := T.obj _ _ st b hb
    exact (stay b hb o e).2
section
variable {X : Cx} {kx vx tg iter : Expr} {ifs : List Expr} {scope : Scope} {own : List (Str × Nat)} {pos : Pos} {wi : TI} {g : TG} {tt : TT} {tk tv : TE}
/-- the block's context -/
abbrev Bx (X : Cx) (scope : Scope) (s : Shared) (H : Hp) (C : Addr) (cl : List (Str × Addr)) (fp : List Addr) : Cx := X.blk s H scope (compEnvC scope cl C X.env) fp
theorem dcomp_core {z : HO} (hz : z = .dK [] ∨ z = .dT []) (hu : X.A.units + 64 < cLine) (hc : X.calm = true) (hN : X.N.Nodup) (hi : PI X tg iter wi) (ok : BlkOk X.N X.env.scope scope own)
    (hg : ∀ s H C cl fp, PG (Bx X scope s H C cl fp) tg g) (ht : ∀ s H C cl fp, PTs (Bx X scope s H C cl fp) ifs tt) (hk : ∀ s H C cl fp, PE (Bx X scope s H C cl fp) kx tk) (he : ∀ s H C cl fp, PE (Bx X scope s H C cl fp) vx tv)
    (hs : ∀ x, foldedSetIterable iter X.env x = pure x) {pins : List (Addr × Obj)} {s : Shared} {σ : Sg} {H : Hp} {Q : VK} {p' : Pos} {use : Option (Value → Sem Unit)} {Qf : Value → Shared → Prop} (I : Inv X pins σ H s) (h : tDq z wi g tt tk tv (own.map (·.2)) σ H Q)
    (fin : ∀ D C s' m H', Inv X pins σ H' s' → Q (.ref D) H' → s'.heap.Ns C m → FpOk X pins H' C → compPost (model X.prog X.w) X.A X.xe use Qf (.ref D) C (.ok .next) s') :
    wpAny (model X.prog X.w) X.A (comprehension (.DictComp kx vx [⟨tg, iter, ifs, 0⟩] scope pos) scope X.env p' newDict false (eval iter X.env) use) Qf X.xe s := by
  have cellsOk : ∀ y ∈ scope.names, y.2 = .free → ∃ c, X.env.cells.lookup y.1 = some c := fun y hy e => I.ok.has _ (ok.free y hy e)
  refine wpAny_comprehension_free (use := use) rfl hs (closure_ok cellsOk) ok.kind (fun y hy e => (ok.uniq y hy).trans (congrArg some e)) (thn (hi.run pins s σ H _ I h) fun xv s1 hx => thn hx fun itv s2 came => ?_)
  obtain ⟨it, fp, tn, J, H2, rfl, I2, T, st2, f2, q⟩ := came
  refine wpAny_newObj_type (newEnv_comp ?_)
  have hDn := I2.hok.fresh (Nat.le_refl s2.heap.objs.size)
  have I3 := empty_dt I2 z hz
  -- the iterator's objects stand below the new dict
  have low : ∀ b ∈ fp, b < s2.heap.objs.size := fun b hb => let ⟨o, e, _⟩ := T.obj _ _ st2 b hb; Heap.lt_size e
  have f3 : ∀ b ∈ fp, FpOk X pins (upd H2 s2.heap.objs.size z) b ∧ b < (s2.heap.push { cls := .type "dict", data := .dict #[] }).objs.size := fun b hb => by
    refine ⟨⟨by rw [upd_ne (Nat.ne_of_lt (low b hb))]; exact (f2 b hb).1, (f2 b hb).2⟩, ?_⟩
    rw [Heap.size_push]
    exact Nat.lt_succ_of_lt (low b hb)
  have st3 : tn 0 (s2.heap.push { cls := .type "dict", data := .dict #[] }) := T.keep _ _ _ st2 fun b _ o e => Heap.get?_push_of_some _ e
  generalize s2.heap.objs.size = D at I3 low f3 hDn ⊢
  obtain ⟨W, ⟨m0, w0⟩, turn⟩ := q D hDn
  generalize hs3 : ({ s2 with heap := s2.heap.push { cls := .type "dict", data := .dict #[] } } : Shared) = s3 at I3
  have e3 : s3.heap = s2.heap.push { cls := .type "dict", data := .dict #[] } := by rw [← hs3]
  rw [← e3] at f3 st3
  generalize upd H2 D z = H3 at I3 f3 w0
  have IB := block_start I3 ok hN f3
  have bG : PG (X.blk s3 H3 scope (compEnvC scope (cellsFrom (s3.heap.objs.size + 1) scope.names (cloFrom X.env.cells scope.names [])) s3.heap.objs.size X.env) fp) tg g := hg s3 H3 s3.heap.objs.size (cellsFrom (s3.heap.objs.size + 1) scope.names (cloFrom X.env.cells scope.names [])) fp
  have bT : PTs (X.blk s3 H3 scope (compEnvC scope (cellsFrom (s3.heap.objs.size + 1) scope.names (cloFrom X.env.cells scope.names [])) s3.heap.objs.size X.env) fp) ifs tt := ht s3 H3 s3.heap.objs.size (cellsFrom (s3.heap.objs.size + 1) scope.names (cloFrom X.env.cells scope.names [])) fp
  have bK : PE (X.blk s3 H3 scope (compEnvC scope (cellsFrom (s3.heap.objs.size + 1) scope.names (cloFrom X.env.cells scope.names [])) s3.heap.objs.size X.env) fp) kx tk := hk s3 H3 s3.heap.objs.size (cellsFrom (s3.heap.objs.size + 1) scope.names (cloFrom X.env.cells scope.names [])) fp
  have bV : PE (X.blk s3 H3 scope (compEnvC scope (cellsFrom (s3.heap.objs.size + 1) scope.names (cloFrom X.env.cells scope.names [])) s3.heap.objs.size X.env) fp) vx tv := he s3 H3 s3.heap.objs.size (cellsFrom (s3.heap.objs.size + 1) scope.names (cloFrom X.env.cells scope.names [])) fp
  show codeAny _ _ (.compStart (.DictComp kx vx [⟨tg, iter, ifs, 0⟩] scope pos) 0 (.ref it) (.ref D) (compEnvC scope (cellsFrom (s3.heap.objs.size + 1) scope.names (cloFrom X.env.cells scope.names [])) s3.heap.objs.size X.env)) (compPost (model X.prog X.w) X.A X.xe use Qf (.ref D) s3.heap.objs.size) { s3 with heap := pushCells (s3.heap.push { cls := .type "dict", data := .dict #[] }) scope.names }
  have none3 : ∀ b ∈ fp, H3 b = none := fun b hb => (f3 b hb).1.1
  have st4 : tn 0 ({ s3 with heap := pushCells (s3.heap.push { cls := .type "dict", data := .dict #[] }) scope.names } : Shared).heap := T.keep _ _ _ st3 fun b _ o e => pushCells_keeps _ _ _ _ (Heap.get?_push_of_some _ e)
  have eL : (compEnvC scope (cellsFrom (s3.heap.objs.size + 1) scope.names (cloFrom X.env.cells scope.names [])) s3.heap.objs.size X.env).locals = s3.heap.objs.size := rfl
  generalize compEnvC scope (cellsFrom (s3.heap.objs.size + 1) scope.names (cloFrom X.env.cells scope.names [])) s3.heap.objs.size X.env = ce at IB bG bT bK bV eL ⊢
  generalize ({ s3 with heap := pushCells (s3.heap.push { cls := .type "dict", data := .dict #[] }) scope.names } : Shared) = s4 at IB st4 ⊢
  have loop : codeAny (model X.prog X.w) X.A (.compLoop (.DictComp kx vx [⟨tg, iter, ifs, 0⟩] scope pos) 0 (.ref it) (.ref D) ce) (compPost (model X.prog X.w) X.A X.xe use Qf (.ref D) s3.heap.objs.size) s4 := by
    refine compLoop_anyD (BlkAt (X.blk s3 H3 scope ce fp) fp tn (wipe σ (own.map (·.2))) W) ?_ m0 ⟨0, H3, IB, st4, none3, w0⟩
    rintro n s5 ⟨i, H5, I5, st5, n5, w5⟩
    have F5 := blk_fp rfl rfl I5 n5
    rcases turn i n H5 w5 with ⟨stop, qq⟩ | ⟨go, Nx, nx, step⟩
    · refine thnF (T.done (X.blk s3 H3 scope ce fp) rfl rfl rfl hc i [] s5 _ H5 (fun _ _ => False) I5 F5 st5 stop) fun r s6 ⟨er, I6⟩ => ?_
      subst er
      have I7 : Inv X pins σ H5 s6 := I3.call' (ch := fp) I6.os I6.base I6.hok I6.bare fun b hb => let ⟨_, a1, _, a3, a4, a5⟩ := (f3 b hb).1; ⟨a3, a1, a4, a5⟩
      have nC : H5 s3.heap.objs.size = none := eL ▸ I6.free
      obtain ⟨m, ns, _⟩ := I6.loc
      have ns' : s6.heap.Ns s3.heap.objs.size m := eL ▸ ns
      exact fin D _ s6 m H5 I7 qq ns' (I3.fpOk (Nat.le_refl _) nC)
    · refine thnF (T.item (X.blk s3 H3 scope ce fp) rfl rfl rfl hc i [] s5 _ H5 (fun _ _ => False) I5 F5 st5 go) fun r s6 ⟨u, er, h6⟩ => ?_
      subst er
      refine thnF h6 fun _ s7 ⟨x, H7, I7, r7, y7, st7, n7⟩ => ?_
      have P7 := I7.pinned (fp := fp) (blk_fp rfl rfl I7 n7) (T.obj _ _ st7)
      refine thnF (bG.run _ s7 _ H7 x u _ P7 r7 (step x H7 y7)) fun _ s8 ⟨σ8, H8, I8, hw8, q8⟩ => thnF (bT.run _ s8 σ8 H8 _ I8 q8) fun b s9 ⟨H9, I9, q9⟩ => ?_
      cases b with
      | false =>
        rw [if_neg Bool.false_ne_true]
        exact blk_next (B := X.blk s3 H3 scope ce fp) T st7 hw8 nx I9 q9
      | true =>
        rw [if_pos rfl]
        refine thnF (bK.run _ s9 σ8 H9 _ I9 q9) fun k' s10 ⟨yk, H10, I10, r10, q10⟩ => thnF (bV.run _ s10 σ8 H10 _ I10 q10) fun v' s11 ⟨yv, H11, I11, r11, H12, dp, q12⟩ => ?_
        exact set_dput (X := X.blk s3 H3 scope ce fp) hu I11 dp r10 r11 fun s12 I12 => blk_next (B := X.blk s3 H3 scope ce fp) T st7 hw8 nx I12 q12
  exact codeAny_compStart_dict loop (T.self X.A 0 _ _ _ st4 loop)
theorem pe_dcomp {z : HO} (hz : z = .dK [] ∨ z = .dT []) (hu : X.A.units + 64 < cLine) (hc : X.calm = true) (hN : X.N.Nodup) (hi : PI X tg iter wi) (ok : BlkOk X.N X.env.scope scope own)
    (hg : ∀ s H C cl fp, PG (Bx X scope s H C cl fp) tg g) (ht : ∀ s H C cl fp, PTs (Bx X scope s H C cl fp) ifs tt) (hk : ∀ s H C cl fp, PE (Bx X scope s H C cl fp) kx tk) (he : ∀ s H C cl fp, PE (Bx X scope s H C cl fp) vx tv)
    (hs : ∀ x, foldedSetIterable iter X.env x = pure x) : PE X (.DictComp kx vx [⟨tg, iter, ifs, 0⟩] scope pos) (tDq z wi g tt tk tv (own.map (·.2))) := by
  refine ⟨fun pins s σ H Q I h => ?_⟩
  rw [arm_eval_DictComp]
  refine dcomp_core hz hu hc hN hi ok hg ht hk he hs I h fun D C s' m H' I' q ns f => ⟨m, ns, fun h'' sb => ?_⟩
  obtain ⟨f0, f1, _, f3, f4, f5⟩ := f
  exact ⟨.ref D, H', I'.turned (t' := s'.toks) (fun b o hb e => (sb.2 b hb).trans e) f0 f1 f3 f4 f5, rfl, q⟩
/-- name = {..} on one line, the name a local -/
theorem ps_setDcomp {z : HO} {i : Nat} {y : Str} {py spos : Pos} (hz : z = .dK [] ∨ z = .dT []) (hu : X.A.units + 64 < cLine) (hc : X.calm = true) (hN : X.N.Nodup) (hy : X.N[i]? = some y) (hyl : X.env.scope.names.lookup y = some .local)
    (hsw : swapsWith (.DictComp kx vx [⟨tg, iter, ifs, 0⟩] scope pos) (some (.Name y py)) spos.line X.env = pure true) (hi : PI X tg iter wi) (ok : BlkOk X.N X.env.scope scope own)
    (hg : ∀ s H C cl fp, PG (Bx X scope s H C cl fp) tg g) (ht : ∀ s H C cl fp, PTs (Bx X scope s H C cl fp) ifs tt) (hk : ∀ s H C cl fp, PE (Bx X scope s H C cl fp) kx tk) (he : ∀ s H C cl fp, PE (Bx X scope s H C cl fp) vx tv)
    (hs : ∀ x, foldedSetIterable iter X.env x = pure x) : PS X (.Assign [.Name y py] (.DictComp kx vx [⟨tg, iter, ifs, 0⟩] scope pos) spos) (tAsg (tDq z wi g tt tk tv (own.map (·.2))) (gName i)) := by
  refine ⟨fun pins s σ H D I h => ?_⟩
  rw [exec_Assign_Name_used _ _ _ _ hsw]
  refine wpAny_bind (wpAny_standAt (wpAny_bind ?_))
  show wpAny _ X.A (do let _ ← comprehension (.DictComp kx vx [⟨tg, iter, ifs, 0⟩] scope pos) scope X.env (firstIterPos [⟨tg, iter, ifs, 0⟩] pos) newDict false (eval iter X.env) (some (assign (.Name y py) X.env))) _ _ s
  refine wpAny_bind (thn (dcomp_core (Q := fun x H1 => gName i x σ H1 D.nx) (Qf := fun _ s' => SP X pins D .next s') hz hu hc hN hi ok hg ht hk he hs I h fun L C s' m H' I' q ns f => ?_) fun _ s' hq => wpAny_pure (wpAny_pure hq))
  show wpAny _ _ (assign (.Name y py) X.env (.ref L)) _ _ _
  refine wpAny_assign_Name (store_ok2 (v := V.ref L) I' hN hy (.inl hyl) rfl (fun s2 I2 ⟨a, sb, ha⟩ => ?_) (.inr hyl))
  obtain ⟨f0, f1, f2, f3, f4, f5⟩ := f
  have ne : C ≠ a := by
    rcases ha with e | e
    · rw [e]; exact f1
    · exact fun e' => f4 y a e e'.symm
  exact ⟨m, ns.sameBut sb ne, fun h3 sb3 => ⟨_, H', I2.turned (t' := s2.toks) (fun b o hb e => (sb3.2 b hb).trans e) f0 f1 f3 f4 f5, q⟩⟩
end
end DL
/-! The data layer: dict comprehensions as data. -/
namespace DL
open PySem PySem.Spec PyProof.Rows L2

def isDd : D → Bool
  | .dK _ => true
  | .dT _ => true
  | _ => false
theorem put_dict {H : Hp} {A : Ax} {D : Addr} {d k v d' : DL.D} {x y : V} (ow : OwnAt H A D d) (hd : isDd d = true) (r : putD d k v = some d') (hk : IsD H A x k) (hv : IsD H A y v) (aA : A D) :
    ∃ o, DPut H D x y (upd H D o) ∧ OwnAt (upd H D o) A D d' ∧ isMu o = true ∧ isDd d' = true := by
  have ne : ∀ b, ¬ A b → b ≠ D := fun b n z => n (z ▸ aA)
  have kp : ∀ o, Kp H A (upd H D o) A := fun o => ⟨rfl, fun x xs e n => by rw [upd_ne (ne x n)]; exact e, fun x xs e n => by rw [upd_ne (ne x n)]; exact e, fun x u e n => by
    rcases e with e | ⟨z, e⟩
    · exact .inl (by rw [upd_ne (ne x n)]; exact e)
    · exact .inr ⟨z, by rw [upd_ne (ne x n)]; exact e⟩, fun _ _ n => n⟩
  unfold putD at r
  split at r
  · cases hd
  · rename_i kvs
    split at r
    · rename_i kk rk
      split at r
      · rename_i hl
        cases r
        obtain ⟨xs, e1, s1⟩ := ow
        exact ⟨.dK (putK xs kk y), .inl ⟨xs, kk, e1, keyOf_is (.d hk) rk, mx_lt (by rw [s1.length]; exact hl), rfl⟩, ⟨_, upd_same, (s1.put hv).kp (kp _)⟩, rfl, rfl⟩
      · cases r
    · cases r
  · rename_i kvs ks
    split at r
    · rename_i kk rk
      split at r
      · rename_i hl
        cases r
        obtain ⟨xs, e1, s1⟩ := ow
        obtain ⟨b, rfl, hb⟩ := keysOf_tup hk rk
        exact ⟨.dT (putK xs kk y), .inr ⟨xs, kk, b, e1, rfl, hb, mx_lt (by rw [s1.length]; exact hl), rfl⟩, ⟨_, upd_same, (s1.put hv).kp (kp _)⟩, rfl, rfl⟩
      · cases r
    · cases r
  · cases r
/-- the empty dict, of tuple keys or not -/
def dE (tk : Bool) : DL.D := if tk then .dT [] else .dK []
def hE (tk : Bool) : HO := if tk then .dT [] else .dK []
theorem hE_or (tk : Bool) : hE tk = .dK [] ∨ hE tk = .dT [] := by cases tk <;> simp [hE]
theorem hE_mu (tk : Bool) : isMu (hE tk) = true := by cases tk <;> rfl
theorem own_E {H : Hp} {A : Ax} {D : Addr} (tk : Bool) (h : H D = some (hE tk)) : OwnAt H A D (dE tk) := by
  cases tk
  · exact ⟨[], h, .nil⟩
  · exact ⟨[], h, .nil⟩
def compQ (g : FG) (t : FT) (fk fv : FE) (vs : List Nat) : List D → D → FE
  | [], acc => fun env => some (acc, env)
  | d :: ds, acc => fun env => match g d env with
    | none => none
    | some e1 => match t e1 with
      | none => none
      | some (false, e2) => if mineAll e2 vs then compQ g t fk fv vs ds acc (wipeE e2 vs) else none
      | some (true, e2) => match fk e2 with
        | none => none
        | some (k, e3) => match fv e3 with
          | none => none
          | some (v, e4) => match putD acc k v with
            | none => none
            | some acc' => if mineAll e4 vs then compQ g t fk fv vs ds acc' (wipeE e4 vs) else none
def fCompQ (tk : Bool) (fi : FI) (g : FG) (t : FT) (fk fv : FE) (vs : List Nat) : FE := fun env => match fi env with
  | none => none
  | some (ds, e) => if mineAll e vs then match compQ g t fk fv vs ds (dE tk) (wipeE e vs) with
    | none => none
    | some (x, e') => if mineAll e' vs then some (x, restE e e' vs) else none else none
theorem dc_of {K : PySem.W.Frag} {tk : Bool} {fi : FI} {g : FG} {gv : List Nat} {t : FT} {fk fv : FE} {vs : List Nat} {σ : Sg} {H : Hp} {Q : VK} (hgv : ∀ i ∈ gv, i ∈ vs) (h : tF K (fCompQ tk fi g t fk fv vs) σ H Q) : tDq (hE tk) (tI K fi) (tG K g gv) (tT K t) (tD K fk) (tD K fv) vs σ H Q := by
  obtain ⟨F, env, as, d, env', hK, E, ef, q⟩ := h
  unfold fCompQ at ef
  cases r1 : fi env with
  | none => rw [r1] at ef; cases ef
  | some p =>
    obtain ⟨ds, e0⟩ := p
    simp only [r1] at ef
    split at ef
    · rename_i hmine
      cases r2 : compQ g t fk fv vs ds (dE tk) (wipeE e0 vs) with
      | none => rw [r2] at ef; cases ef
      | some p2 =>
        obtain ⟨xs, e9⟩ := p2
        simp only [r2] at ef
        split at ef
        · rename_i hm9
          cases ef
          refine ⟨F, env, as, ds, e0, hK, E, r1, fun J H1 as1 E1 S1 it D hD => ?_⟩
          have g0 : Gr H1 (upd H1 D (hE tk)) := Gr.new hD
          have ED : EnvOk (F.add D) (upd H1 D (hE tk)) σ e0 as1 := E1.more g0 hD ⟨_, upd_same, hE_mu tk⟩ E1.trk
          obtain ⟨asW, EW, SW⟩ := ED.wiped (vs := vs) fun i m => mineAll_at hmine m
          have nD : ∀ {as : List (Option Addr)} {e : En} {σ : Sg} {H : Hp}, EnvOk (F.add D) H σ e as → some D ∉ as := fun E z => E.ap D z (Or.inr rfl)
          have dA : ∀ as, Av as (F.add D).B D := fun _ => Or.inr (Or.inr rfl)
          refine ⟨fun i m Hi => m = ds.length - i ∧ ∃ env asi acc, EnvOk (F.add D) Hi (wipe σ vs) env asi ∧ StepD D as1 (upd H1 D (hE tk)) asi Hi ∧ OwnAt Hi (Av asi (F.add D).B) D acc ∧ isDd acc = true ∧ compQ g t fk fv vs (ds.drop i) acc env = some (d, e9),
            ⟨_, rfl, _, asW, dE tk, EW, StepD.of SW, own_E tk upd_same, by cases tk <;> rfl, r2⟩, ?_⟩
          rintro i m Hi ⟨rfl, env, asi, acc, Ei, Si, ow, da, ei⟩
          have kx : Kx H1 (Av as1 F.B) Hi (Av asi (F.add D).B) := ⟨rfl, fun a o e n => Si.keep a o (by rw [upd_ne (ne_of_none e hD)]; exact e) fun z => (List.mem_cons.mp z).elim (fun z => ne_of_none e hD (Option.some.inj z)) fun z => n (Or.inl z), fun a e n z => by
            have e' : a ≠ D := fun q => e (q ▸ hD)
            rcases z with z | z | z
            · rcases Si.new a (List.mem_cons_of_mem _ z) with y | y
              · exact (List.mem_cons.mp y).elim (fun y => e' (Option.some.inj y)) fun y => n (Or.inl y)
              · rw [upd_ne e'] at y; exact e y
            · exact n (Or.inr z)
            · exact e' z⟩
          obtain ⟨go, stop⟩ := it i Hi _ kx Ei.mu
          by_cases hi : i < ds.length
          · have hd : ds[i]? = some ds[i] := List.getElem?_eq_getElem hi
            rw [List.drop_eq_getElem_cons hi] at ei
            unfold compQ at ei
            obtain ⟨g1, yl⟩ := go _ hd
            refine .inr ⟨g1, fun H' => ∃ env asi acc, EnvOk (F.add D) H' (wipe σ vs) env asi ∧ StepD D as1 (upd H1 D (hE tk)) asi H' ∧ OwnAt H' (Av asi (F.add D).B) D acc ∧ isDd acc = true ∧ compQ g t fk fv vs (ds.drop (i + 1)) acc env = some (d, e9),
              fun H' z => ⟨_, by omega, rfl, z⟩, fun x H' y => ?_⟩
            obtain ⟨gr, ix⟩ := yl x H' y
            have Sgr := gr.step asi
            cases r3 : g ds[i] env with
            | none => rw [r3] at ei; cases ei
            | some e1 =>
              simp only [r3] at ei
              refine ⟨F.add D, env, asi, _, e1, hK, Ei.gr gr, ix, r3, fun σ2 H2 as2 E2 S2 w2 => ?_⟩
              have w2' : wipe σ2 vs = wipe σ vs := by rw [w2 vs hgv, wipe_wipe]
              refine ⟨w2', ?_⟩
              cases r4 : t e1 with
              | none => rw [r4] at ei; cases ei
              | some p4 =>
                obtain ⟨b, e2⟩ := p4
                simp only [r4] at ei
                refine ⟨F.add D, e1, as2, b, e2, hK, E2, r4, fun H3 as3 E3 S3 => ?_⟩
                have S03 : Step asi Hi as3 H3 := (Sgr.trans S2).trans S3
                have own' : ∀ {as' H'}, Step asi Hi as' H' → OwnAt H' (Av as' (F.add D).B) D acc := fun S => ow.kp (StepD.of S).kp fun o e => S.keep D o e (nD Ei)
                cases b with
                | false =>
                  simp only at ei
                  split at ei
                  · rename_i hm
                    obtain ⟨as4, E4, S4⟩ := E3.wiped (vs := vs) fun i m => mineAll_at hm m
                    rw [w2'] at E4
                    exact ⟨_, as4, acc, E4, Si.trans (StepD.of (S03.trans S4)), own' (S03.trans S4), da, ei⟩
                  · cases ei
                | true =>
                  simp only at ei
                  cases r5 : fk e2 with
                  | none => rw [r5] at ei; cases ei
                  | some p5 =>
                    obtain ⟨kd, e3⟩ := p5
                    simp only [r5] at ei
                    cases r6 : fv e3 with
                    | none => rw [r6] at ei; cases ei
                    | some p6 =>
                      obtain ⟨vd, e4⟩ := p6
                      simp only [r6] at ei
                      cases r7 : putD acc kd vd with
                      | none => rw [r7] at ei; cases ei
                      | some acc' =>
                        simp only [r7] at ei
                        split at ei
                        · rename_i hm
                          refine ⟨F.add D, e2, as3, kd, e3, hK, E3, r5, fun y H4 as4 E4 S4 i4 => ⟨F.add D, e3, as4, vd, e4, hK, E4, r6, fun z H5 as5 E5 S5 i5 => ?_⟩⟩
                          have S05 := (S03.trans S4).trans S5
                          obtain ⟨o, dp, ow', mo, da'⟩ := put_dict (own' S05) da r7 (i4.st S5) i5 (dA as5)
                          have E6 := E5.updB (o := o) (Or.inr rfl) mo
                          obtain ⟨as7, E7, S7⟩ := E6.wiped (vs := vs) fun i m => mineAll_at hm m
                          rw [w2'] at E7
                          have hD5 : H5 D ≠ none := (own' S05).ne
                          exact ⟨_, dp, _, as7, acc', E7, ((Si.trans (StepD.of S05)).trans (StepD.upd hD5)).trans (StepD.of S7), ow'.kp (StepD.of S7).kp fun o e => S7.keep D o e (nD E6), da', ei⟩
                        · cases ei
          · have e : ds.drop i = [] := List.drop_eq_nil_of_le (by omega)
            rw [e] at ei
            cases ei
            refine .inl ⟨stop (by omega), ?_⟩
            obtain ⟨as9, E9, S9⟩ := EnvOk.rested (F := F.add D) (H0 := upd H1 D (hE tk)) (as0 := as1) (B0 := (F.add D).B) ED.sl (vs := vs) Ei (Si.kp) fun i m => mineAll_at hm9 m
            rw [unwipe_wipe] at E9
            have S19 : StepD D as1 (upd H1 D (hE tk)) as9 Hi := Si.trans (StepD.of S9)
            have nA : ¬ Av as9 F.B D := fun z => by
              rcases z with z | z
              · exact nD E9 z
              · exact E1.av D (Or.inr z) hD
            refine q D Hi as9 E9 (S1.trans (S19.old hD (nD E9))) ?_ ⟨nA, (ow.kp ((StepD.of S9).kp (B := F.B)) fun _ e => e).kp (Kp.less (A := Av as9 (F.add D).B) (A' := (Av as9 F.B).add D) rfl fun x z => ?_) fun _ e => e⟩
            · cases z : H D with
              | none => rfl
              | some o => exact absurd hD (S1.dom D (some_ne z))
            · rcases z with (z | z) | z
              · exact Or.inl z
              · exact Or.inr (Or.inl z)
              · exact Or.inr (Or.inr z)
        · cases ef
    · cases ef
theorem fCompQ_fi {tk : Bool} {fi : FI} {g : FG} {t : FT} {fk fv : FE} {vs : List Nat} {env : En} {o : D × En} (h : fCompQ tk fi g t fk fv vs env = some o) : ∃ p, fi env = some p := by
  unfold fCompQ at h
  cases r : fi env with
  | none => rw [r] at h; cases h
  | some p => exact ⟨p, rfl⟩
section
variable {X : Cx} {kx vx tg iter : Expr} {ifs : List Expr} {scope : Scope} {own : List (Str × Nat)} {pos : Pos} {fi : FI} {g : FG} {gv : List Nat} {t : FT} {fk fv : FE}
theorem df_dcomp (tk : Bool) (hu : X.A.units + 64 < cLine) (hc : X.calm = true) (hN : X.N.Nodup) (hi : PI X tg iter (tI X.K fi)) (ok : BlkOk X.N X.env.scope scope own) (hgv : ∀ i ∈ gv, i ∈ own.map (·.2))
    (hg : ∀ s H C cl fp, PG (Bx X scope s H C cl fp) tg (tG X.K g gv)) (ht : ∀ s H C cl fp, PTs (Bx X scope s H C cl fp) ifs (tT X.K t)) (hk : ∀ s H C cl fp, PE (Bx X scope s H C cl fp) kx (tD X.K fk)) (he : ∀ s H C cl fp, PE (Bx X scope s H C cl fp) vx (tD X.K fv))
    (hs : ∀ x, foldedSetIterable iter X.env x = pure x := by intro _; rfl) : PE X (.DictComp kx vx [⟨tg, iter, ifs, 0⟩] scope pos) (tF X.K (fCompQ tk fi g t fk fv (own.map (·.2)))) :=
  PE.weak (pe_dcomp (hE_or tk) hu hc hN hi ok hg ht hk he hs) fun σ H Q h => dc_of hgv h
theorem df_dcompL (tk : Bool) {i : Nat} (hfi : ∀ env o, fi env = some o → isDat i env) (hu : X.A.units + 64 < cLine) (hc : X.calm = true) (hN : X.N.Nodup) (hi : PI X tg iter (tIl X.K fi i)) (ok : BlkOk X.N X.env.scope scope own) (hgv : ∀ i ∈ gv, i ∈ own.map (·.2))
    (hg : ∀ s H C cl fp, PG (Bx X scope s H C cl fp) tg (tG X.K g gv)) (ht : ∀ s H C cl fp, PTs (Bx X scope s H C cl fp) ifs (tT X.K t)) (hk : ∀ s H C cl fp, PE (Bx X scope s H C cl fp) kx (tD X.K fk)) (he : ∀ s H C cl fp, PE (Bx X scope s H C cl fp) vx (tD X.K fv))
    (hs : ∀ x, foldedSetIterable iter X.env x = pure x := by intro _; rfl) : PE X (.DictComp kx vx [⟨tg, iter, ifs, 0⟩] scope pos) (tF X.K (fCompQ tk fi g t fk fv (own.map (·.2)))) :=
  de_lockF (i := i) (PE.weak (pe_dcomp (hE_or tk) hu hc hN hi ok hg ht hk he hs) fun σ H Q h => ⟨h.1, dc_of hgv h.2⟩) fun env o h => let ⟨p, e⟩ := fCompQ_fi h; hfi env p e
theorem ds_setDc (tk : Bool) {i : Nat} {y : Str} {py spos : Pos} (hu : X.A.units + 64 < cLine) (hc : X.calm = true) (hN : X.N.Nodup) (hy : X.N[i]? = some y) (hyl : X.env.scope.names.lookup y = some .local)
    (hsw : swapsWith (.DictComp kx vx [⟨tg, iter, ifs, 0⟩] scope pos) (some (.Name y py)) spos.line X.env = pure true) (hi : PI X tg iter (tI X.K fi)) (ok : BlkOk X.N X.env.scope scope own) (hgv : ∀ i ∈ gv, i ∈ own.map (·.2))
    (hg : ∀ s H C cl fp, PG (Bx X scope s H C cl fp) tg (tG X.K g gv)) (ht : ∀ s H C cl fp, PTs (Bx X scope s H C cl fp) ifs (tT X.K t)) (hk : ∀ s H C cl fp, PE (Bx X scope s H C cl fp) kx (tD X.K fk)) (he : ∀ s H C cl fp, PE (Bx X scope s H C cl fp) vx (tD X.K fv))
    (hs : ∀ x, foldedSetIterable iter X.env x = pure x := by intro _; rfl) : PS X (.Assign [.Name y py] (.DictComp kx vx [⟨tg, iter, ifs, 0⟩] scope pos) spos) (tS X.K (fSetO i (fCompQ tk fi g t fk fv (own.map (·.2))))) :=
  PS.weak (ps_setDcomp (hE_or tk) hu hc hN hy hyl hsw hi ok hg ht hk he hs) fun _ _ _ h => sSetO_of (fun _ _ _ z => dc_of hgv z) h
theorem ds_setDcL (tk : Bool) {i j : Nat} {y : Str} {py spos : Pos} (hfi : ∀ env o, fi env = some o → isDat i env) (hu : X.A.units + 64 < cLine) (hc : X.calm = true) (hN : X.N.Nodup) (hy : X.N[j]? = some y) (hyl : X.env.scope.names.lookup y = some .local)
    (hsw : swapsWith (.DictComp kx vx [⟨tg, iter, ifs, 0⟩] scope pos) (some (.Name y py)) spos.line X.env = pure true) (hi : PI X tg iter (tIl X.K fi i)) (ok : BlkOk X.N X.env.scope scope own) (hgv : ∀ i ∈ gv, i ∈ own.map (·.2))
    (hg : ∀ s H C cl fp, PG (Bx X scope s H C cl fp) tg (tG X.K g gv)) (ht : ∀ s H C cl fp, PTs (Bx X scope s H C cl fp) ifs (tT X.K t)) (hk : ∀ s H C cl fp, PE (Bx X scope s H C cl fp) kx (tD X.K fk)) (he : ∀ s H C cl fp, PE (Bx X scope s H C cl fp) vx (tD X.K fv))
    (hs : ∀ x, foldedSetIterable iter X.env x = pure x := by intro _; rfl) : PS X (.Assign [.Name y py] (.DictComp kx vx [⟨tg, iter, ifs, 0⟩] scope pos) spos) (tS X.K (fSetO j (fCompQ tk fi g t fk fv (own.map (·.2))))) :=
  ds_lock (i := i) (PS.weak (ps_setDcomp (hE_or tk) hu hc hN hy hyl hsw hi ok hg ht hk he hs) fun _ _ _ h => ⟨h.1, sSetO_of (fun _ _ _ z => dc_of hgv z) h.2⟩) fun env o h => by
    unfold fSetO at h
    cases r : fCompQ tk fi g t fk fv (own.map (·.2)) env with
    | none => rw [r] at h; cases h
    | some p =>
      obtain ⟨q, e⟩ := fCompQ_fi r
      exact hfi env q e
end
end DL
/-! The data layer: tuples whose objects are known (they bear no dict of their own: dict(t) asks that). -/
namespace DL
open PySem PySem.Spec PyProof.Rows L2

/-- a new tuple, its object known -/
def QNew (Q : VK) (H : Hp) (xs : List V) : Prop := ∀ p o, H p = none → o.dict = none → Q (.ref p) (upd H p (.frz o (.tup xs)))
theorem lay_ptp {X : Cx} {pins : List (Addr × Obj)} {σ : Sg} {H : Hp} {s s' : Shared} {Q : VK} {xs : List V} {its : Array Value} (I : Inv X pins σ H { s' with heap := s.heap, toks := s.toks }) (hs : s'.heap = s.heap.push { cls := .type "tuple", data := .seq its }) (hz : xs.length ≤ sizeLine) (r : Vals xs its.toList) (q : QNew Q H xs) : EP X pins σ Q (.ref s.heap.objs.size) s' := by
  obtain ⟨h', g', d', t', o'⟩ := s'
  simp only at hs
  subst hs
  refine ⟨.ref s.heap.objs.size, _, I.laid (t' := t') (o := .frz { cls := .type "tuple", data := .seq its } (.tup xs)) (fun b u e => Heap.get?_push_of_some _ e) (Nat.le_refl _) ⟨Heap.get?_push_size _ rfl, hz, its.toList, r, ?_⟩, rfl, q _ _ (I.hok.fresh (Nat.le_refl _)) rfl⟩
  rw [Array.toArray_toList]
  exact IsTup.new _ _
theorem new_ptp {H : Hp} {A : Ax} {p : Addr} {o : Obj} {xs : List V} {ds : List D} (hp : H p = none) (ho : o.dict = none) (hA : ∀ p, A p → H p ≠ none) (h : IsDs H A xs ds) : IsD (upd H p (.frz o (.tup xs))) A (.ref p) (.ptp ds) :=
  .ptp upd_same ho (fun z => hA p z hp) (h.kp ((Gr.new hp).kp A))
section
variable {X : Cx} {pos p2 : Pos} {es : List Expr} {e : Expr} {lo hi : Option Expr}
theorem pe_tupP {x1} {t : TA} (h : PA X es t) : PE X (.Tuple es x1 pos) (fun σ H Q => t σ H fun xs H1 => xs.length ≤ sizeLine ∧ QNew Q H1 xs) := by
  refine ⟨fun pins s σ H Q I hq => wpAny_Tuple_spliced (thn (h.run pos pins s σ H _ I hq) fun us s1 ⟨xs, H1, I1, r, z, q⟩ => ⟨r.length ▸ z, ?_⟩)⟩
  exact lay_ptp (s := s1) (I1.tok s1.toks) rfl z (by simpa using r) q
def fTupP (f : FA) : FE := fun env => match f env with
  | none => none
  | some (ds, e) => if ds.length ≤ mx then some (.ptp ds, e) else none
theorem de_tupP {x1} {f : FA} (h : PA X es (tA X.K f)) : PE X (.Tuple es x1 pos) (tD X.K (fTupP f)) := by
  refine PE.weak (pe_tupP h) ?_
  rintro σ H Q ⟨F, env, as, d, env', hK, E, ef, q⟩
  unfold fTupP at ef
  cases r1 : f env with
  | none => rw [r1] at ef; cases ef
  | some p =>
    obtain ⟨ds, e1⟩ := p
    simp only [r1] at ef
    split at ef
    · rename_i hl
      cases ef
      refine ⟨F, env, as, ds, _, hK, E, r1, fun vs H1 as1 E1 S1 i1 => ⟨by rw [i1.length]; exact mx_line hl, fun p o hp ho => ?_⟩⟩
      exact q _ _ as1 (E1.gr (Gr.new hp)) (S1.trans ((Gr.new hp).step _)) (new_ptp hp ho E1.av i1)
    · cases ef
/-- tuple(list) -/
theorem call_tupP : CallR X (.type "tuple") (fun xs H Q => ∃ p ys, xs = [.ref p] ∧ SqL X.K H p ys ∧ QNew Q H ys) := by
  intro pins s σ H xs us Q I r h
  obtain ⟨p, ys, rfl, hl, q⟩ := h
  obtain ⟨u, rfl, ru⟩ := r.one
  cases ru
  obtain ⟨its, rv, pl, hz⟩ := I.list hl
  refine call_tuple_list pl.isList (fun h' hk => ?_) (by rw [List.size_toArray, ← rv.length]; exact hz)
  exact lay_ptp (s := { s with heap := h' }) (I.kept (t' := s.toks) hk) rfl hz rv q
def gTupleP : List D → Option D
  | [.lst ds] => some (.ptp ds)
  | [.frl ds] => some (.ptp ds)
  | _ => none
theorem g_tupP {K : PySem.W.Frag} : GL K (fun xs H Q => ∃ p ys, xs = [.ref p] ∧ SqL K H p ys ∧ QNew Q H ys) gTupleP := by
  intro H A xs ds d Q hK hA hx hg q
  unfold gTupleP at hg
  split at hg
  · cases hg
    obtain ⟨v, rfl, h⟩ := hx.one
    obtain ⟨p, ys, rfl, e1, s1⟩ := h.lst
    exact ⟨p, ys, rfl, SqL.of e1, fun l o hl ho => q _ _ (Gr.new hl) (new_ptp hl ho hA s1)⟩
  · cases hg
    obtain ⟨v, rfl, h⟩ := hx.one
    obtain ⟨p, ys, rfl, e1, s1⟩ := h.frl
    exact ⟨p, ys, rfl, hK ▸ e1, fun l o hl ho => q _ _ (Gr.new hl) (new_ptp hl ho hA s1)⟩
  · cases hg
/-- t + u -/
def rCatP (K : PySem.W.Frag) : R2 := fun x y H Q => ∃ a b xs ys, x = .ref a ∧ y = .ref b ∧ SqT K H a xs ∧ SqT K H b ys ∧ xs.length + ys.length ≤ sizeLine ∧ (xs = [] → Q (.ref b) H) ∧ (xs ≠ [] → ys = [] → Q (.ref a) H) ∧ (xs ≠ [] → ys ≠ [] → QNew Q H (xs ++ ys))
theorem op_catP : OpR X (binaryOp .Add) (rCatP X.K) := by
  intro pins s σ H x y v u Q I rx ry h
  obtain ⟨a, b, xs, ys, rfl, rfl, ha, hb, hz, q0, q1, q2⟩ := h
  cases rx
  cases ry
  obtain ⟨its, r1, p1, _⟩ := I.tuple ha
  obtain ⟨its2, r2, p2, _⟩ := I.tuple hb
  have n1 : its = [] ↔ xs = [] := by rw [← List.length_eq_zero_iff, ← List.length_eq_zero_iff, r1.length]
  have n2 : its2 = [] ↔ ys = [] := by rw [← List.length_eq_zero_iff, ← List.length_eq_zero_iff, r2.length]
  by_cases hx : its = []
  · subst hx
    exact cat_tup0 p1 p2 ⟨.ref b, H, I, rfl, q0 (n1.mp rfl)⟩
  · refine HT.cat_tup p1 p2 hx (fun z => ⟨.ref a, H, I, rfl, q1 (fun w => hx (n1.mpr w)) (n2.mp z)⟩) (fun z => ?_) (by rw [← r1.length, ← r2.length]; exact hz)
    exact lay_ptp (s := s) (I.tok s.toks) rfl (by rw [List.length_append]; exact hz) (by simpa using r1.append r2) (q2 (fun w => hx (n1.mpr w)) fun w => z (n2.mpr w))
def gAddP : D → D → Option D
  | .ptp xs, .ptp ys => if xs.length + ys.length ≤ mx then some (.ptp (xs ++ ys)) else none
  | _, _ => none
theorem g_addP {K : PySem.W.Frag} : G2 K (rCatP K) gAddP := by
  intro H A x y a b d Q hK hA hx hy hg q
  unfold gAddP at hg
  split at hg
  · rename_i ds es
    split at hg
    · rename_i hl
      cases hg
      obtain ⟨a, o, xs, rfl, e1, o1, n1, s1⟩ := hx.ptp
      obtain ⟨b, o2, ys, rfl, e2, o2d, n2, s2⟩ := hy.ptp
      refine ⟨a, b, xs, ys, rfl, rfl, .inl (.inr ⟨o, e1⟩), .inl (.inr ⟨o2, e2⟩), by rw [s1.length, s2.length]; exact mx_line hl, fun z => ?_, fun _ z => ?_, fun _ _ p o hp ho => q _ _ (Gr.new hp) (new_ptp hp ho hA (s1.append s2))⟩
      · subst z
        cases s1
        exact q _ H (Gr.refl H) (.ptp e2 o2d n2 s2)
      · subst z
        cases s2
        rw [List.append_nil] at q
        exact q _ H (Gr.refl H) (.ptp e1 o1 n1 s1)
    · cases hg
  · cases hg
/-- t[lo:hi] -/
def rSlP (K : PySem.W.Frag) : V → Option Int → Option Int → Hp → VK → Prop := fun x lo hi H Q => ∃ a xs, x = .ref a ∧ SqT K H a xs ∧
  (HT.sIx xs.length 0 lo = 0 ∧ HT.sIx xs.length xs.length hi = xs.length → Q (.ref a) H) ∧ (¬ (HT.sIx xs.length 0 lo = 0 ∧ HT.sIx xs.length xs.length hi = xs.length) → QNew Q H (cutV xs lo hi))
theorem sl_P : SlR X (rSlP X.K) := by
  intro pins s σ H x v vl vu lo hi sl Q I rx hs pl pu h
  obtain ⟨a, xs, rfl, hx, q1, q2⟩ := h
  cases rx
  obtain ⟨its, r, ht, hz⟩ := I.tuple hx
  have hlen : its.toArray.size = xs.length := by rw [List.size_toArray]; exact r.length.symm
  refine ⟨"tuple", _, PyProof.Rows.slot_tuple_getitem.lookup, ht.typeIs, ?_⟩
  by_cases hw : HT.sIx xs.length 0 lo = 0 ∧ HT.sIx xs.length xs.length hi = xs.length
  · exact getItem_tuple_whole ht hs pl pu (by rw [hlen]; exact hw) ⟨.ref a, H, I, rfl, q1 hw⟩
  · refine HT.getItem_tuple_cut ht hs pl pu (by rw [hlen]; exact hw) ?_ (by rw [hlen]; exact hz)
    rw [hlen]
    exact lay_ptp (s := s) (I.tok s.toks) rfl (Nat.le_trans (cutV_length xs lo hi) hz) (by unfold cutV; simpa using (r.drop (HT.sIx xs.length 0 lo)).take (HT.sIx xs.length xs.length hi - HT.sIx xs.length 0 lo)) (q2 hw)
def fSlP (fa : FL) (fl fh : FO) : FE := fun env => match fa env with
  | none => none
  | some (a, e1) => match fl e1 with
    | none => none
    | some (lo, e2) => match fh e2 with
      | none => none
      | some (hi, e3) => match res e3 a with
        | some (.ptp ds) => some (.ptp (cutD ds lo hi), e3)
        | _ => none
theorem de_sliceP {fa : FL} {fl fh : FO} (he : PE X e (tL X.K fa)) (hl : PO X lo (tO X.K fl)) (hh : PO X hi (tO X.K fh)) : PE X (.Subscript e (.Slice lo hi none p2) pos) (tD X.K (fSlP fa fl fh)) := by
  refine PE.weak (pe_slice sl_P he hl hh) ?_
  rintro σ H Q ⟨F, env, as, d, env', hK, E, ef, q⟩
  unfold fSlP at ef
  cases r1 : fa env with
  | none => rw [r1] at ef; cases ef
  | some p =>
    obtain ⟨a, e1⟩ := p
    simp only [r1] at ef
    cases r2 : fl e1 with
    | none => rw [r2] at ef; cases ef
    | some p =>
      obtain ⟨l, e2⟩ := p
      simp only [r2] at ef
      cases r3 : fh e2 with
      | none => rw [r3] at ef; cases ef
      | some p =>
        obtain ⟨u, e3⟩ := p
        simp only [r3] at ef
        split at ef
        · rename_i ds r4
          cases ef
          refine ⟨F, env, as, a, e1, hK, E, r1, fun v H1 as1 E1 S1 i1 => ⟨F, e1, as1, l, e2, hK, E1, r2, fun H2 as2 E2 S2 => ⟨F, e2, as2, u, _, hK, E2, r3, fun H3 as3 E3 S3 => ?_⟩⟩⟩
          have S := (S1.trans S2).trans S3
          obtain ⟨a, o, ys, rfl, h1, ho, n1, s1⟩ := ((i1.st S2).st S3).c E3 r4 |>.ptp
          refine ⟨a, ys, rfl, .inl (.inr ⟨o, h1⟩), fun z => ?_, fun _ p o hp ho => q _ _ as3 (E3.gr (Gr.new hp)) (S.trans ((Gr.new hp).step _)) (new_ptp hp ho E3.av (s1.cut l u))⟩
          have e9 : cutD ds l u = ds := by
            unfold cutD
            rw [← s1.length, z.1, z.2, List.drop_zero, Nat.sub_zero, s1.length, List.take_length]
          rw [e9] at q
          exact q _ H3 as3 E3 S (.ptp h1 ho n1 s1)
        · cases ef
end
end DL
/-! The data layer: dicts with tuple keys: items(), dict(pairs), sorted(d), {k: v}. -/
namespace DL
open PySem PySem.Spec PyProof.Rows L2

/-! ### the pairs of a dict with tuple keys -/
theorem frz_ents {X : Cx} {pins : List (Addr × Obj)} {σ : Sg} {H : Hp} {s : Shared} {d : Addr} {o : Obj} {kvs : List (List Key × V)} (I : Inv X pins σ H s) (h : H d = some (.frz o (.dT kvs))) :
    (d == sysModules) = false ∧ ∃ es ep, DT.Raw s.heap d es ep ∧ o.data = .dict es ep ∧ es.size = kvs.length ∧ ∀ (i : Nat) (hi : i < es.size) k v, kvs[i]? = some (k, v) → ∃ q, es[i].key = .ref q ∧ H q = some (.tup (k.map kV)) ∧ RelV v es[i].val := by
  obtain ⟨hd, z, hs, xs, pr, o', es, ep, ho, hx, hdt, he, _⟩ := I.hok d _ h
  rw [hd] at ho
  cases ho
  have l1 : es.size = xs.length := size_of_entries he
  have l2 : kvs.length = xs.length := Paired.length pr
  refine ⟨hs, es, ep, ⟨o, hd, hx, hdt⟩, hdt, by omega, fun i hi k v e => ?_⟩
  obtain ⟨b, hb, e1, e2, e3⟩ := paired_get pr e
  have q := entry_at he i
  rw [hb, Array.getElem?_eq_getElem hi] at q
  have q' : es[i] = entryOfKey (tupleKind (mixKind X.prog X.w)) b := Option.some.inj q
  exact ⟨b.2.1, by rw [q']; rfl, e2, by rw [q']; exact e3⟩
def ItiT (d : Addr) (o : Obj) (kvs : List (List Key × V)) : It :=
  ⟨fun i H => H d = some (.frz o (.dT kvs)) ∧ i < kvs.length, fun i H x H' => ∃ T k v q, kvs[i]? = some (k, v) ∧ x = .ref T ∧ H T = none ∧ H q = some (.tup (k.map kV)) ∧ H' = upd H T (.tup [.ref q, v]), fun i H => H d = some (.frz o (.dT kvs)) ∧ kvs.length ≤ i⟩
theorem turn_itT {P : Program} {w : World} {K : PySem.W.Frag} {d : Addr} {o : Obj} {es : Array DictEntry} {ep : Nat} {kvs : List (List Key × V)} {elts : List Expr} {kk : Nat} {tpos : Pos} (it : Addr) (hod : o.data = .dict es ep) (hsz : es.size = kvs.length) :
    Turn P w K (.Tuple elts kk tpos) (ItiT d o kvs) [it] it (fun i h => ∃ ok ov, IsItemIter h it d i es.size ep ok ov) where
  mem := List.mem_singleton_self it
  obj := fun i h ⟨ok, ov, e⟩ b hb => by
    cases List.mem_singleton.mp hb
    exact ⟨_, e, fun v z => nomatch z⟩
  keep := fun i h h' ⟨ok, ov, e⟩ k => ⟨ok, ov, k it (List.mem_singleton_self it) _ e⟩
  item := by
    intro X hP hw hK hc i pins s σ H E I hf ⟨ok, ov, he⟩ ⟨hd, hi⟩
    subst hP hw hK
    obtain ⟨hs, es', ep', raw, hdt, hz, ent⟩ := frz_ents I hd
    obtain ⟨rfl, rfl⟩ := dict_ep hod hdt
    have hi' : i < es'.size := by omega
    obtain ⟨q, ek, eq, rv⟩ := ent i hi' _ _ (List.getElem?_eq_getElem hi)
    have below : it < s.heap.objs.size := Heap.lt_size he
    refine DT.nextI he raw hi' fun h' out pair big stay => ⟨_, rfl, wpAny_letOwnedTupleGo_items (s := { s with heap := h' }) out fun h'' back sb => ?_⟩
    have pair2 : h''.get? s.heap.objs.size = some { cls := .type "tuple", data := .seq #[es'[i].key, es'[i].val] } := (sb.2 _ (Nat.ne_of_gt below)).trans pair
    have I1 : Inv X pins σ (upd H s.heap.objs.size (.tup [.ref q, kvs[i].2])) { s with heap := h'' } :=
      I.turnedNew (t' := s.toks) (ch := [it]) (fun b ob hb e => (sb.2 b fun z => hb (List.mem_singleton.mpr z)).trans (stay b ob (fun z => hb (List.mem_singleton.mpr z)) e)) hf (Nat.le_refl _)
        ⟨by rw [sizeLine_eq]; exact (by decide : (2 : Nat) ≤ 16777216), [es'[i].key, es'[i].val], .cons ek (.cons rv .nil), ⟨_, pair2, rfl, _, rfl⟩⟩
    refine ⟨.ref s.heap.objs.size, _, I1, rfl, ⟨_, kvs[i].1, kvs[i].2, q, List.getElem?_eq_getElem hi, rfl, I.hok.fresh (Nat.le_refl _), eq, rfl⟩, ⟨_, _, back⟩, fun b hb => ?_⟩
    cases List.mem_singleton.mp hb
    rw [upd_ne (Nat.ne_of_lt below)]
    exact (hf it hb).1
  done := by
    intro X hP hw hK hc i pins s σ H E I hf ⟨ok, ov, he⟩ ⟨hd, hi⟩
    subst hP hw hK
    obtain ⟨f0, f1, f2, f3, f4, f5⟩ := hf it (List.mem_singleton_self it)
    obtain ⟨hs, es', ep', raw, hdt, hz, ent⟩ := frz_ents I hd
    obtain ⟨rfl, rfl⟩ := dict_ep hod hdt
    exact DT.endI (I.ok.hd hc) he raw (by omega) fun h' eb => ⟨rfl, I.turned (t' := s.toks) (fun b ob hb e => eb b ob hb e) f0 f1 f3 f4 f5⟩
  self := fun A i s Q E ⟨_, _, e⟩ h => PySem.W.kcp_self e h
section
variable {X : Cx} {e : Expr} {td : TE} {apos cpos tpos : Pos} {elts : List Expr} {kk : Nat}
theorem pi_itT (he : PE X e td) (hbase : attributeBase e "items" X.env (eval e X.env) = eval e X.env := by rfl) (hline : (apos.endLine == cpos.line) = true := by rfl) :
    PI X (.Tuple elts kk tpos) (.Call (.Attribute e "items" apos) [] [] cpos) (fun σ H R => td σ H fun x H1 => ∃ d o kvs, x = .ref d ∧ H1 d = some (.frz o (.dT kvs)) ∧ R (ItiT d o kvs) H1) := by
  refine ⟨fun pins s σ H R I h => wpAny_Call_method (T := "dict") (id := "dict.items") hbase rfl hline F.plainAttrs_dict F.slot_dict_items F.type_dict_items (thn (he.run pins s σ H _ I h) fun u s1 ⟨x, H1, I1, rx, d, o, kvs, ex, hd, q⟩ => ?_)⟩
  subst ex
  cases rx
  obtain ⟨hs, es, ep, raw, hdt, hz, _⟩ := frz_ents I1 hd
  have I2 : Inv X pins σ H1 { s1 with heap := s1.heap.push { cls := .type "dict_items", data := .fields #[.ref d] } } := I1.kept (t' := s1.toks) fun b ob q => Heap.get?_push_of_some _ q
  refine ⟨raw.typeIs, fun a e => (by cases e; obtain ⟨o, ho, hx, _⟩ := raw; exact ⟨o, ho, hx.2.1⟩), ?_⟩
  show wpAny _ _ (callWith cpos (.builtin "dict.items") [.ref d] [] []) _ X.xe s1
  refine method_meetsIn F.slot_dict_items F.entry_dict_items rfl (PySem.evalArgs_none ⟨rfl, raw.typeIs, F.args_dict_items_1 _, _, DT.meetsItems (es := es) (ep := ep) hs, raw, ?_⟩)
  refine DT.iterI (d := d) ⟨_, Heap.get?_push_size _ rfl, rfl, rfl⟩ (raw.push _) (pi_one (tk := s1.toks) I2 _ (turn_itT _ hdt hz) ⟨.none, .none, ?_⟩ q)
  exact Heap.get?_push_size _ rfl
end
/-- (key, value) of the dict in slot i -/
def fiItems (i : Nat) : FI := fun env => match env[i]? with
  | some (.val (.dT kvs)) => some (kvs.map (fun p => .tup [tupK p.1, p.2]), env)
  | some (.val (.dK kvs)) => some (kvs.map (fun p => .tup [keyD p.1, p.2]), env)
  | _ => none
theorem items_dat {i : Nat} {env : En} {o : List D × En} (h : fiItems i env = some o) : isDat i env := by
  unfold fiItems at h
  split at h
  · exact .inl ⟨_, by assumption⟩
  · exact .inr ⟨_, by assumption⟩
  · cases h
theorem iter_itT {H : Hp} {A : Ax} {d : Addr} {o : Obj} {kvs : List (List Key × V)} {ds : List (List Key × D)} (h : H d = some (.frz o (.dT kvs))) (n : ¬ A d) (s : IsTs H A kvs ds) : IterD (ItiT d o kvs) (ds.map fun p => .tup [tupK p.1, p.2]) H A := by
  intro i Hi A' k hA
  have r := k.keep _ _ h n
  refine ⟨fun dd e => ?_, fun hl => ⟨r, by rw [List.length_map, ← s.length'] at hl; exact hl⟩⟩
  rw [List.getElem?_map] at e
  cases e0 : ds[i]? with
  | none => rw [e0] at e; cases e
  | some p =>
    rw [e0] at e
    cases e
    obtain ⟨v, e1, i1⟩ := s.get e0
    refine ⟨⟨r, (List.getElem?_eq_some_iff.mp e1).1⟩, fun x H' y => ?_⟩
    obtain ⟨T, kk, vv, q, e2, rfl, hT, hq, rfl⟩ := y
    rw [e1] at e2
    cases e2
    exact ⟨Gr.new hT, new_pair hT (mu_ne hA) (.tup hq (tup_clear hA hq) (keysD_is _)) (i1.kp k.kp)⟩
theorem iter_itK {H : Hp} {A : Ax} {d : Addr} {o : Obj} {kvs : List (Key × V)} {ds : List (Key × D)} (h : H d = some (.frz o (.dK kvs))) (n : ¬ A d) (s : IsKs H A kvs ds) : IterD (Iti d o kvs) (ds.map fun p => .tup [keyD p.1, p.2]) H A := by
  intro i Hi A' k hA
  have r := k.keep _ _ h n
  refine ⟨fun dd e => ?_, fun hl => ⟨r, by rw [List.length_map, ← s.length'] at hl; exact hl⟩⟩
  rw [List.getElem?_map] at e
  cases e0 : ds[i]? with
  | none => rw [e0] at e; cases e
  | some p =>
    rw [e0] at e
    cases e
    obtain ⟨v, e1, i1⟩ := s.get e0
    refine ⟨⟨r, (List.getElem?_eq_some_iff.mp e1).1⟩, fun x H' y => ?_⟩
    obtain ⟨T, kk, vv, e2, rfl, hT, rfl⟩ := y
    rw [e1] at e2
    cases e2
    exact ⟨Gr.new hT, new_pair hT (mu_ne hA) (keyD_is _) (i1.kp k.kp)⟩
section
variable {X : Cx} {x : Str} {pos apos cpos tpos : Pos} {elts : List Expr} {kk : Nat}
theorem di_items (i : Nat) (hN : X.N[i]? = some x := by rfl) (hv : Vis X.env.scope x := by first | exact Or.inl rfl | exact Or.inr (Or.inl rfl) | exact Or.inr (Or.inr rfl)) (hd : (x == ("__debug__" : Str)) = false := by decide)
    (hcd : (x == ("__classdict__" : Str)) = false := by decide) (hbase : attributeBase (.Name x pos) "items" X.env (eval (.Name x pos) X.env) = eval (.Name x pos) X.env := by rfl) (hline : (apos.endLine == cpos.line) = true := by rfl) :
    PI X (.Tuple elts kk tpos) (.Call (.Attribute (.Name x pos) "items" apos) [] [] cpos) (tIl X.K (fiItems i) i) := by
  refine PI.weak (PI.or (pi_itT (pe_var (i := i) hN hv hd hcd) hbase hline) (pi_items (pe_var (i := i) hN hv hd hcd) hbase hline)) ?_
  rintro σ H R ⟨⟨d, od, u, hd, hf⟩, F, env, as, ds, env', hK, E, ef, q⟩
  unfold fiItems at ef
  split at ef
  · rename_i kvs e
    cases ef
    obtain ⟨x0, o0, h1, h2, h3⟩ := E.sl.at e
    rw [hd] at h1
    cases h1
    cases h3 with
    | val z => cases z with
      | dT r n s =>
        cases frz_rd hf rfl r
        exact .inl ⟨_, hd, d, od, _, rfl, hf, q _ H as E (Step.refl _ _) (iter_itT hf n s)⟩
  · rename_i kvs e
    cases ef
    obtain ⟨x0, o0, h1, h2, h3⟩ := E.sl.at e
    rw [hd] at h1
    cases h1
    cases h3 with
    | val z => cases z with
      | dK r n s =>
        cases frz_rd hf rfl r
        exact .inr ⟨_, hd, d, od, _, rfl, hf, q _ H as E (Step.refl _ _) (iter_itK hf n s)⟩
  · cases ef
end

/-! ### dict(pairs) -/
def pairsD : List D → Option (List (List Key × D))
  | [] => some []
  | .tup [.tup ks, v] :: r => match keysOf ks, pairsD r with
    | some k, some rs => some ((k, v) :: rs)
    | _, _ => none
  | _ => none
def gDict : List D → Option D
  | [.lst ds] => if ds.length ≤ mx then (pairsD ds).map fun ps => .dT (ps.foldl (fun a p => dput a p.1 p.2) []) else none
  | [.ptp ds] => if ds.length ≤ mx then (pairsD ds).map fun ps => .dT (ps.foldl (fun a p => dput a p.1 p.2) []) else none
  | _ => none
/-- the items at ps are pairs (key, value), the keys' tuples at the second places -/
def PrsAt (K : PySem.W.Frag) (H : Hp) (ps : List Addr) (kvs : List (List Key × Addr × V)) : Prop := Paired (fun p q => SqT K H p [.ref q.2.1, q.2.2] ∧ H q.2.1 = some (.tup (q.1.map kV))) ps kvs
def rDictT (K : PySem.W.Frag) : List V → Hp → VK → Prop := fun xs H Q => ∃ (a : Addr) (ps : List Addr) (kvs : List (List Key × Addr × V)), xs = [.ref a] ∧ ((H a = some (.lst (ps.map V.ref))) ∨ ∃ o, H a = some (.frz o (.tup (ps.map V.ref))) ∧ o.dict = none) ∧ PrsAt K H ps kvs ∧
  ∀ p, H p = none → Q (.ref p) (upd H p (.dT ((kvs.map fun q => (q.1, q.2.2)).foldl (fun a q => putK a q.1 q.2) [])))
section
variable {X : Cx}
theorem prs_raw {pins : List (Addr × Obj)} {σ : Sg} {H : Hp} {s : Shared} (I : Inv X pins σ H s) : ∀ {ps : List Addr} {kvs : List (List Key × Addr × V)}, PrsAt X.K H ps kvs → ∃ vs : List (List Key × Addr × Value), Paired (fun q z => q.1 = z.1 ∧ q.2.1 = z.2.1 ∧ RelV q.2.2 z.2.2) kvs vs ∧ vs.length = ps.length ∧
    ∀ (j : Nat) z, vs[j]? = some z → ∃ b, ps[j]? = some b ∧ IsTup s.heap b #[.ref z.2.1, z.2.2] ∧ (∀ h', (∀ c o, s.heap.get? c = some o → h'.get? c = some o) → (tupleKind (mixKind X.prog X.w)).is h' z.1 z.2.1)
  | _, _, .nil => ⟨[], .nil, rfl, fun j z e => by simp at e⟩
  | _, _, .cons (a := p) (b := q) h t => by
    obtain ⟨vs, r, hl, hp⟩ := prs_raw I t
    obtain ⟨its, rv, ht, _⟩ := I.tuple h.1
    obtain ⟨u1, u2, ei, r1, r2⟩ := vals2 rv
    subst ei
    cases r1
    refine ⟨(q.1, q.2.1, u2) :: vs, .cons ⟨rfl, rfl, r2⟩ r, by rw [List.length_cons, List.length_cons, hl], fun j z e => ?_⟩
    cases j with
    | zero =>
      cases (show (q.1, q.2.1, u2) = z from Option.some.inj e)
      exact ⟨p, rfl, ht, fun h' k => key_of ((I.kept (t' := s.toks) k).hok) h.2⟩
    | succ j =>
      obtain ⟨b, e1, e2⟩ := hp j z (by simpa using e)
      exact ⟨b, by simpa using e1, e2⟩
theorem kt_fold {H : Hp} : ∀ {kvs : List (List Key × Addr × V)} {vs : List (List Key × Addr × Value)} {acc : List (List Key × V)} {acc' : List (List Key × Addr × Value)}, Paired (fun q z => q.1 = z.1 ∧ q.2.1 = z.2.1 ∧ RelV q.2.2 z.2.2) kvs vs → (∀ q ∈ kvs, H q.2.1 = some (.tup (q.1.map kV))) → KT H acc acc' →
    KT H ((kvs.map fun q => (q.1, q.2.2)).foldl (fun a q => putK a q.1 q.2) acc) (storedAllH acc' vs)
  | _, _, _, _, .nil, _, r => r
  | _, _, _, _, .cons (a := q) (b := z) (l₁ := qs) (l₂ := zs) h t, hk, r => by
    obtain ⟨e1, e2, e3⟩ := h
    have r' := r.put q.1 (hk q List.mem_cons_self) e3
    rw [e1, e2] at r'
    show KT H ((qs.map fun q => (q.1, q.2.2)).foldl _ (putK _ q.1 q.2.2)) (storedAllH (storedH _ z.1 z.2.1 z.2.2) zs)
    rw [e1]
    exact kt_fold t (fun q m => hk q (List.mem_cons_of_mem _ m)) r'
theorem paired_mem {α β : Type} {P : α → β → Prop} : ∀ {as : List α} {bs : List β}, Paired P as bs → ∀ b ∈ bs, ∃ a, P a b
  | _, _, .nil, b, h => by cases h
  | _, _, .cons h t, b, m => (List.mem_cons.mp m).elim (fun e => e ▸ ⟨_, h⟩) fun m => paired_mem t b m
theorem putK_fold_len (l : List (List Key × V)) : ∀ acc : List (List Key × V), (l.foldl (fun a q => putK a q.1 q.2) acc).length ≤ acc.length + l.length := by
  induction l with
  | nil => intro acc; simp
  | cons q l ih =>
    intro acc
    have h1 := ih (putK acc q.1 q.2)
    have h2 := length_putK acc q.1 q.2
    simp only [List.foldl_cons, List.length_cons]
    omega
theorem call_dictT (hc : X.calm = true) (hu : X.A.units + 66 < cLine) : CallR X (.type "dict") (rDictT X.K) := by
  intro pins s σ H xs us Q I r h
  obtain ⟨a, ps, kvs, rfl, hq, hp, q⟩ := h
  obtain ⟨u, rfl, ru⟩ := r.one
  cases ru
  obtain ⟨vs, rel, hl, hv⟩ := prs_raw I hp
  have items : ∀ its : List Value, Vals (ps.map V.ref) its → PairItems s.heap its.toArray (fun j => (ps[j]?).getD 0) (vs.map fun z => (Value.ref z.2.1, z.2.2)) := fun its rv => by
    rw [refs_at rv]
    refine ⟨by simp [hl], fun j k v e => ?_⟩
    rw [List.getElem?_map] at e
    cases e0 : vs[j]? with
    | none => rw [e0] at e; cases e
    | some z =>
      rw [e0] at e
      cases e
      obtain ⟨b, e1, e2, _⟩ := hv j z e0
      exact ⟨by simp [e1], .inl (by simp only [e1, Option.getD_some]; exact e2)⟩
  have have' : PairsHaveH (tupleKind (mixKind X.prog X.w)) (vs.map fun z => (Value.ref z.2.1, z.2.2)).length (PairRel (vs.map fun z => (Value.ref z.2.1, z.2.2))) vs := by
    refine ⟨by rw [List.length_map], fun i key v e => ?_⟩
    have e : (vs.map fun z => (Value.ref z.2.1, z.2.2))[i]? = some (key, v) := e
    rw [List.getElem?_map] at e
    cases e0 : vs[i]? with
    | none => rw [e0] at e; cases e
    | some z => rw [e0] at e; cases e; exact ⟨z.1, z.2.1, rfl, rfl⟩
  have stay : ∀ wr : List Addr, wr = [] → KeysStay (tupleKind (mixKind X.prog X.w)) s.heap s.heap.objs.size wr vs := by
    rintro _ rfl h' k x hx
    obtain ⟨j, hj⟩ := List.getElem?_of_mem hx
    obtain ⟨b, _, _, e3⟩ := hv j x hj
    exact e3 h' fun c o e => k c o (Nat.ne_of_lt (Heap.lt_size e)) (fun z => nomatch z) e
  have keys : ∀ z ∈ kvs, H z.2.1 = some (.tup (z.1.map kV)) := fun z hz => (paired_mem hp z hz).elim fun _ h => h.2
  have lk : kvs.length = vs.length := Paired.length rel
  have fin : ∀ (its : List Value), ps.length ≤ sizeLine → ∀ h' tk, h'.DictOfH (tupleKind (mixKind X.prog X.w)) s.heap.objs.size (storedAllH [] vs) → (∀ b o, b ∉ ([] : List Addr) → s.heap.get? b = some o → h'.get? b = some o) → EP X pins σ Q (.ref s.heap.objs.size) { s with heap := h', toks := tk } := fun its hz h' tk hd k => by
    obtain ⟨o, es, ep, ho, h2, h3, h4, _, h5⟩ := hd
    have fr := I.hok.fresh (Nat.le_refl s.heap.objs.size)
    refine ⟨.ref s.heap.objs.size, _, I.laid (t' := tk) (fun b u e => k b u (fun z => nomatch z) e) (Nat.le_refl _) (o := .dT ((kvs.map fun q => (q.1, q.2.2)).foldl (fun a q => putK a q.1 q.2) [])) ⟨?_, beq_eq_false_iff_ne.mpr (Nat.ne_of_gt I.big), storedAllH [] vs, ?_, o, es, ep, ho, h2, h3, h4, h5⟩, rfl, q _ fr⟩
    · refine Nat.le_trans (putK_fold_len _ []) ?_
      rw [List.length_nil, List.length_map, lk, hl]
      omega
    · exact (kt_fold (acc := []) (acc' := []) rel keys .nil).keeps fun c ys ec => by rw [upd_ne (ne_of_none ec fr)]; exact ec
  rcases hq with hq | ⟨o, hq, ho⟩
  · obtain ⟨hz, its, n, rv, hg⟩ := I.hok a _ hq
    rw [List.length_map] at hz
    exact call_dict_pairsH (knd := tupleKind (mixKind X.prog X.w)) (PairArg.list a its.toArray (fun j => (ps[j]?).getD 0) (vs.map fun z => (Value.ref z.2.1, z.2.2))) (I.ok.hd hc) (show X.A.in1.in1.units < cLine from by
      show X.A.units + 1 + 1 < cLine
      omega) ⟨⟨_, n, hg, rfl, rfl, rfl⟩, items its rv⟩ have' (stay _ rfl) (by rw [List.length_map, hl]; exact hz) (fin its hz)
  · obtain ⟨hg, hz, its, rv, o', hg', hc', n, hd'⟩ := I.hok a _ hq
    rw [hg] at hg'
    cases hg'
    rw [List.length_map] at hz
    exact call_dict_pairsH (knd := tupleKind (mixKind X.prog X.w)) (PairArg.tuple a its.toArray (fun j => (ps[j]?).getD 0) (vs.map fun z => (Value.ref z.2.1, z.2.2))) (I.ok.hd hc) (show X.A.in1.in1.units < cLine from by
      show X.A.units + 1 + 1 < cLine
      omega) ⟨⟨_, n, hg, hc', ho, hd'⟩, items its rv⟩ have' (stay _ rfl) (by rw [List.length_map, hl]; exact hz) (fin its hz)
end
theorem of_pairsD {K : PySem.W.Frag} {H : Hp} {A : Ax} : ∀ {vs : List V} {ds : List D} {ps : List (List Key × D)}, IsDs H A vs ds → pairsD ds = some ps → ∃ (as : List Addr) (kvs : List (List Key × Addr × V)), vs = as.map V.ref ∧ PrsAt K H as kvs ∧ IsTs H A (kvs.map fun q => (q.1, q.2.2)) ps
  | _, _, _, .nil, e => by cases e; exact ⟨[], [], rfl, .nil, .nil⟩
  | _, _, ps, .cons (d := d) (ds := ds) h t, e => by
    unfold pairsD at e
    split at e
    · rename_i heq
      cases heq
    · rename_i ks v r heq
      injection heq with h1 h2
      subst h1 h2
      split at e
      · rename_i k rs e1 e2
        cases e
        obtain ⟨as, kvs, rfl, hp, ht⟩ := of_pairsD (K := K) t e2
        cases h with
        | tup r n s =>
          cases s with
          | cons s1 s2 => cases s2 with
            | cons s2 s3 =>
              cases s3
              obtain ⟨b, rfl, hb⟩ := keysOf_tup s1 e1
              exact ⟨_ :: as, (k, b, _) :: kvs, rfl, .cons ⟨SqT.of r, hb⟩ hp, .cons s2 ht⟩
      · cases e
    · cases e
theorem isTs_fold {H : Hp} {A : Ax} : ∀ {l : List (List Key × V)} {ps : List (List Key × D)} {acc : List (List Key × V)} {acc' : List (List Key × D)}, IsTs H A l ps → IsTs H A acc acc' → IsTs H A (l.foldl (fun a q => putK a q.1 q.2) acc) (ps.foldl (fun a p => dput a p.1 p.2) acc')
  | _, _, _, _, .nil, r => r
  | _ :: l, _ :: ps, acc, acc', .cons h t, r => by
    rw [List.foldl_cons, List.foldl_cons]
    exact isTs_fold (l := l) (ps := ps) t (r.put h)
theorem g_dict {K : PySem.W.Frag} : GLF K (rDictT K) gDict := by
  intro H A xs ds d Q hK hA hx hg q
  have fin : ∀ {a : Addr} {vs : List V} {es : List D}, IsDs H A vs es → ((H a = some (.lst vs)) ∨ ∃ o, H a = some (.frz o (.tup vs)) ∧ o.dict = none) → ((pairsD es).map fun ps => D.dT (ps.foldl (fun a p => dput a p.1 p.2) [])) = some d → rDictT K [.ref a] H Q := by
    intro a vs es s hq hg
    cases e : pairsD es with
    | none => rw [e] at hg; cases hg
    | some ps =>
      rw [e] at hg
      cases hg
      obtain ⟨as, kvs, rfl, hp, ht⟩ := of_pairsD (K := K) s e
      refine ⟨a, as, kvs, rfl, hq, hp, fun p hn => q p _ hn (Gr.new hn) ⟨fun z => hA p z hn, _, upd_same, ?_⟩⟩
      exact isTs_fold (ht.kp (kp_new hn)) .nil
  unfold gDict at hg
  split at hg
  · split at hg
    · obtain ⟨v, rfl, h⟩ := hx.one
      obtain ⟨p, ys, rfl, e1, s1⟩ := h.lst
      exact fin s1 (.inl e1) hg
    · cases hg
  · split at hg
    · obtain ⟨v, rfl, h⟩ := hx.one
      obtain ⟨p, o, ys, rfl, e1, ho, _, s1⟩ := h.ptp
      exact fin s1 (.inr ⟨o, e1, ho⟩) hg
    · cases hg
  · cases hg
end DL
/-! The data layer: sorted(d), d a dict whose keys are tuples of ints. -/
namespace DL
open PySem PySem.Spec PyProof.Rows L2

abbrev ikey (ns : List Int) : List Key := ns.map Sum.inl
theorem ikey_v (ns : List Int) : (ikey ns).map kV = ns.map V.int := by
  unfold ikey
  rw [List.map_map]
  rfl
def rSrtD (K : PySem.W.Frag) : List V → Hp → VK → Prop := fun xs H Q => ∃ (a : Addr) (kvs : List (List Key × V)) (nss : List (List Int)) (d : Nat), xs = [.ref a] ∧ Rd H a (.dT kvs) ∧ kvs.map (·.1) = nss.map ikey ∧ (nss.length ≤ 1 ∨ (1 ≤ d ∧ fitT d nss = true)) ∧
  ∀ (L : List (Addr × List Int)) (p : Addr), (∀ q ∈ L, H q.1 = some (.tup (q.2.map V.int))) → L.map (·.2) = sortT nss → H p = none → Q (.ref p) (upd H p (.lst (L.map fun q => V.ref q.1)))
theorem vals_map_ref : ∀ L : List (Addr × List Int), Vals (L.map fun q => V.ref q.1) (L.map fun q => Value.ref q.1)
  | [] => .nil
  | _ :: L => .cons rfl (vals_map_ref L)
theorem sortT_short {nss : List (List Int)} (h : nss.length ≤ 1) : sortT nss = nss := short_perm h (sortT_perm nss)
/-- the keys of a dict with tuples of ints as keys -/
theorem ent_keys {X : Cx} {pins : List (Addr × Obj)} {σ : Sg} {H : Hp} {s : Shared} {a : Addr} {kvs : List (List Key × V)} {nss : List (List Int)} (I : Inv X pins σ H s) (h : Rd H a (.dT kvs)) (hk : kvs.map (·.1) = nss.map ikey) :
    kvs.length ≤ sizeLine ∧ (a == sysModules) = false ∧ ∃ (o : Obj) (es : Array DictEntry) (ep : Nat) (L : List (Addr × List Int)), s.heap.get? a = some o ∧ o.ExactDict ∧ o.data = .dict es ep ∧ L.map (·.2) = nss ∧ (∀ q ∈ L, H q.1 = some (.tup (q.2.map V.int))) ∧
      es.toList.map (·.key) = L.map fun q => Value.ref q.1 := by
  obtain ⟨z, hs, xs, pr, o, es, ep, ho, hx, hdt, he, _⟩ := (show ObjOk X.prog X.w H s.heap a (.dT kvs) from h.ok I.hok)
  refine ⟨z, hs, o, es, ep, (xs.map fun x => x.2.1).zip nss, ho, hx, hdt, ?_⟩
  have key : ∀ {kvs : List (List Key × V)} {xs : List (List Key × Addr × Value)} {nss : List (List Int)}, Paired (fun (p : List Key × V) (q : List Key × Addr × Value) => p.1 = q.1 ∧ H q.2.1 = some (.tup (p.1.map kV)) ∧ RelV p.2 q.2.2) kvs xs → kvs.map (·.1) = nss.map ikey →
      ((xs.map fun x => x.2.1).zip nss).map (·.2) = nss ∧ (∀ q ∈ (xs.map fun x => x.2.1).zip nss, H q.1 = some (.tup (q.2.map V.int))) ∧ ((xs.map fun x => x.2.1).zip nss).map (fun q => Value.ref q.1) = xs.map fun x => Value.ref x.2.1 := by
    intro kvs xs nss pr
    induction pr generalizing nss with
    | nil =>
      intro e
      cases nss with
      | nil => exact ⟨rfl, fun q m => by simp at m, rfl⟩
      | cons n ns => cases e
    | cons h t ih =>
      intro e
      cases nss with
      | nil => cases e
      | cons n ns =>
        rw [List.map_cons, List.map_cons] at e
        injection e with e1 e2
        obtain ⟨i1, i2, i3⟩ := ih e2
        obtain ⟨h1, h2, h3⟩ := h
        rw [e1, ikey_v] at h2
        refine ⟨by rw [List.map_cons, List.zip_cons_cons, List.map_cons, i1], fun q m => ?_, by rw [List.map_cons, List.zip_cons_cons, List.map_cons, List.map_cons, i3]⟩
        rw [List.map_cons, List.zip_cons_cons] at m
        rcases List.mem_cons.mp m with m | m
        · rw [m]; exact h2
        · exact i2 q m
  obtain ⟨i1, i2, i3⟩ := key pr hk
  refine ⟨i1, i2, ?_⟩
  rw [i3, he, List.map_map]
  rfl
theorem call_sortedDT {X : Cx} (hc : X.calm = true) : CallR X (.builtin "sorted") (rSrtD X.K) := by
  intro pins s σ H xs us Q I r h
  obtain ⟨a, kvs, nss, d, rfl, hd, hk, hf, q⟩ := h
  obtain ⟨u, rfl, ru⟩ := r.one
  cases ru
  obtain ⟨z, hs, o, es, ep, L, ho, hx, hdt, hL, hT, hes⟩ := ent_keys I hd hk
  have ln : L.length = nss.length := by rw [← hL, List.length_map]
  have le : es.size = L.length := by
    have := congrArg List.length hes
    rw [List.length_map, List.length_map, Array.length_toList] at this
    exact this
  have few : nss.length < 64 := hf.elim (fun h => by omega) fun h => fitT_len h.2
  refine Calls.call_function_entry kind_sorted plain_sorted entry_sorted (args_sorted1 _) ?_
  unfold Builtin.«sorted»
  refine wpAny_bind (m := checkCount "sorted" 1 1 _) (wpAny_pure (wpAny_bind (PySem.W.kdu_collect (A := X.A.in1) (kdl_raw hs hx hdt) (I.ok.hd hc) ho (by rw [sizeLine_eq]; omega) fun h' tk acc keep items => ?_)))
  have eacc : acc.toList = L.map fun q => Value.ref q.1 := by
    rw [← hes]
    apply List.ext_getElem?
    intro j
    rw [List.getElem?_map]
    cases hj : acc.toList[j]? with
    | none =>
      have h1 := List.getElem?_eq_none_iff.mp hj
      rw [Array.length_toList, items.1] at h1
      rw [List.getElem?_eq_none (by rw [Array.length_toList]; exact h1)]
      rfl
    | some v =>
      obtain ⟨en, hen, hv⟩ := items.2 j v (by rw [← Array.getElem?_toList]; exact hj)
      rw [Array.getElem?_toList, hen, hv]
      rfl
  have I1 : Inv X pins σ H { s with heap := h', toks := tk } := I.kept keep
  have lv : acc.toList.length = L.length := by rw [eacc, List.length_map]
  refine wpAny_bind (wpAny_newList ?_ (by rw [lv, sizeLine_eq]; omega))
  have hoL : (h'.push (seqObj "list" acc.toList.toArray 0)).get? h'.objs.size = some (seqObj "list" acc.toList.toArray 0) := Heap.get?_push_size _ rfl
  -- the order of the keys
  have raw : ∀ q ∈ L, TS.TupInts (h'.push (seqObj "list" acc.toList.toArray 0)) (.ref q.1) q.2 := fun q m => (tupI_raw I1 (SqT.of (hT q m))).keeps fun b ob e _ => Heap.get?_push_of_some _ e
  have fin : ∀ out : Array Value, out.toList.Perm acc.toList → (2 ≤ acc.toList.length → out.toList.Pairwise (fun u v => codeT (TS.intsOf (h'.push (seqObj "list" acc.toList.toArray 0)) u) ≤ codeT (TS.intsOf (h'.push (seqObj "list" acc.toList.toArray 0)) v))) →
      EP X pins σ Q (.ref h'.objs.size) { s with heap := sortedHeap (h'.push (seqObj "list" acc.toList.toArray 0)) h'.objs.size acc.toList out, toks := tk } := by
    intro out p so
    rw [eacc] at p
    obtain ⟨L', pL, eo⟩ := perm_map_inv (fun q : Addr × List Int => Value.ref q.1) p
    have es' : L'.map (·.2) = sortT nss := by
      rcases hf with h1 | ⟨h1, h2⟩
      · rw [short_perm (by omega) pL, hL, sortT_short h1]
      · by_cases hl : nss.length ≤ 1
        · rw [short_perm (by omega) pL, hL, sortT_short hl]
        · refine sortT_is h2 (by rw [← hL]; exact pL.map _) ?_
          have so' := so (by omega)
          rw [eo, List.pairwise_map] at so'
          rw [List.pairwise_map]
          refine List.Pairwise.imp_of_mem (fun {x y} hx hy hle => ?_) so'
          rw [(raw x (pL.mem_iff.mp hx)).ints, (raw y (pL.mem_iff.mp hy)).ints] at hle
          exact hle
    obtain ⟨e', he'⟩ := sortedHeap_at (vs := acc.toList) (out := out) hoL
    have lo : out.toList.length = L.length := by rw [p.length_eq, List.length_map]
    refine ⟨.ref h'.objs.size, upd H h'.objs.size (.lst (L'.map fun q => V.ref q.1)), I1.laid (t' := tk) (fun b u e => ?_) (Nat.le_refl _) (show ObjOk X.prog X.w _ _ _ (.lst (L'.map fun q => V.ref q.1)) from ⟨?_, out.toList, e', by rw [eo]; exact vals_map_ref L', by rw [Array.toArray_toList]; exact he'⟩), rfl, q L' _ (fun q m => hT q (pL.mem_iff.mp m)) es' (I1.hok.fresh (Nat.le_refl _))⟩
    · have hlt := Heap.lt_size e
      rw [sortedHeap_old (Nat.ne_of_lt hlt) (by rw [size_push']; exact Nat.lt_succ_of_lt hlt)]
      exact Heap.get?_push_of_some _ e
    · rw [List.length_map, pL.length_eq, sizeLine_eq]
      omega
  show wpAny _ _ _ _ _ { s with heap := h'.push (seqObj "list" acc.toList.toArray 0), toks := tk }
  refine wpAny_bind (wpAny_holding (wpAny_call_entry slot_list_sort ⟨_, hoL, rfl⟩ entry_list_sort ?_ (args_list_sort _)))
  by_cases hl : nss.length ≤ 1
  · refine SK.plain_sort (r := fun _ => 0) (s := { s with heap := h'.push (seqObj "list" acc.toList.toArray 0), toks := tk }) hoL (by omega) (fun h2 => by omega) fun ps out h1 h2 h3 => ⟨_, rfl, wpAny_pure ⟨_, rfl, fin out ?_ fun h2 => by omega⟩⟩
    exact (TS.out_rank (r := fun _ => (0 : Int)) h1 h2 h3).1
  · obtain ⟨h1, h2⟩ := hf.resolve_left hl
    refine TS.sort_tups (d := d) (B := 64) (s := { s with heap := h'.push (seqObj "list" acc.toList.toArray 0), toks := tk }) hoL (by omega) h1 (fun v hv => ?_) (fun v => codeT (TS.intsOf (h'.push (seqObj "list" acc.toList.toArray 0)) v)) (fun v hv ns t => by rw [t.ints]) fun out a1 a2 => ⟨_, rfl, wpAny_pure ⟨_, rfl, fin out a1 fun _ => a2⟩⟩
    rw [eacc] at hv
    obtain ⟨q, hq, rfl⟩ := List.mem_map.mp hv
    obtain ⟨f1, f2⟩ := fitT_mem h2 (show q.2 ∈ nss from hL ▸ List.mem_map.mpr ⟨q, hq, rfl⟩)
    exact ⟨q.2, raw q hq, f1, f2⟩
/-- keys that are tuples of ints -/
def iKeys? : List (List Key × D) → Option (List (List Int))
  | [] => some []
  | (k, _) :: r => match k.mapM (fun x : Key => match x with
    | .inl i => some i
    | .inr _ => none), iKeys? r with
    | some ns, some rs => some (ns :: rs)
    | _, _ => none
theorem mapM_inl : ∀ {k : List Key} {ns : List Int}, k.mapM (fun x : Key => match x with
    | .inl i => some i
    | .inr _ => none) = some ns → k = ikey ns
  | [], ns, h => by
    rw [List.mapM_nil] at h
    cases h
    rfl
  | x :: k, ns, h => by
    rw [List.mapM_cons] at h
    cases x with
    | inr y => cases h
    | inl i =>
      cases e : k.mapM (fun x : Key => match x with
        | .inl i => some i
        | .inr _ => none) with
      | none => rw [e] at h; cases h
      | some ms =>
        rw [e] at h
        cases h
        rw [mapM_inl e]
        rfl
theorem of_iKeys {H : Hp} {A : Ax} : ∀ {kvs : List (List Key × V)} {ds : List (List Key × D)} {nss : List (List Int)}, IsTs H A kvs ds → iKeys? ds = some nss → kvs.map (·.1) = nss.map ikey
  | _, _, _, .nil, h => by cases h; rfl
  | _, _, nss, .cons (k := k) (ds := ds) _ t, h => by
    unfold iKeys? at h
    split at h
    · rename_i ns rs e1 e2
      cases h
      rw [List.map_cons, List.map_cons, of_iKeys t e2, mapM_inl e1]
    · cases h
def gSortD : List D → Option D
  | [.dT kvs] => match iKeys? kvs with
    | some nss => if nss.length ≤ 1 ∨ (1 ≤ (nss.head?.getD []).length ∧ fitT (nss.head?.getD []).length nss = true) then some (.lst ((sortT nss).map tupI)) else none
    | none => none
  | _ => none
theorem refs_tups {H : Hp} {A : Ax} (cl : ∀ a xs, H a = some (.tup xs) → ¬ A a) : ∀ {L : List (Addr × List Int)}, (∀ q ∈ L, H q.1 = some (.tup (q.2.map V.int))) → IsDs H A (L.map fun q => V.ref q.1) ((L.map (·.2)).map tupI)
  | [], _ => .nil
  | q :: L, h => .cons (.tup (h q List.mem_cons_self) (cl _ _ (h q List.mem_cons_self)) (isDs_ints _)) (refs_tups cl fun q m => h q (List.mem_cons_of_mem _ m))
/-- GLF, where what is clear of is a list or a dict -/
def GLM (K : PySem.W.Frag) (r : List V → Hp → VK → Prop) (g : List D → Option D) : Prop := ∀ (H : Hp) (A : Ax) (xs : List V) (ds : List D) (d : D) (Q : VK), A.K = K → (∀ p, A p → ∃ o, H p = some o ∧ isMu o = true) → IsCs H A xs ds → g ds = some d → (∀ a H', H a = none → Gr H H' → NewAt H' A a d → Q (.ref a) H') → r xs H Q
theorem tCB_ofM {K : PySem.W.Frag} {r : List V → Hp → VK → Prop} {g : List D → Option D} {fs : FLs} (hg : GLM K r g) {σ : Sg} {H : Hp} {Q : VK} (h : tF K (fB g fs) σ H Q) : tCB r (tLs K fs) σ H Q := by
  obtain ⟨F, env, as, d, env', hK, E, ef, q⟩ := h
  unfold fB at ef
  cases r1 : fs env with
  | none => rw [r1] at ef; cases ef
  | some p =>
    obtain ⟨ls, e1⟩ := p
    simp only [r1] at ef
    cases r2 : ress e1 ls with
    | none => rw [r2] at ef; cases ef
    | some ds =>
      simp only [r2] at ef
      cases r3 : g ds with
      | none => rw [r3] at ef; cases ef
      | some z =>
        rw [r3] at ef
        cases ef
        refine ⟨F, env, as, ls, _, hK, E, r1, fun vs H1 as1 E1 S1 i1 => hg H1 (Av as1 F.B) vs ds _ Q hK E1.mu (i1.c E1 r2) r3 fun a H2 n g2 nw => ?_⟩
        refine q a H2 as1 (E1.more g2 n nw.o.mu E1.trk) (S1.trans (g2.step _)) ?_ nw
        cases z : H a with
        | none => rfl
        | some o => exact absurd n (S1.dom a (some_ne z))
theorem g_sortD {K : PySem.W.Frag} : GLM K (rSrtD K) gSortD := by
  intro H A xs ds d Q hK hA hx hg q
  unfold gSortD at hg
  split at hg
  · rename_i kvs
    split at hg
    · rename_i nss e
      split at hg
      · rename_i hf
        cases hg
        obtain ⟨v, rfl, h⟩ := hx.one
        obtain ⟨p, ks, rfl, hr, hk⟩ := h.dT
        refine ⟨p, ks, nss, _, rfl, hr, of_iKeys hk e, hf, fun L a hT hL ha => ?_⟩
        refine q a _ ha (Gr.new ha) (newAt_lst ha (mu_ne hA) ?_)
        rw [← hL]
        exact refs_tups (fun b ys e => tup_clear hA e) hT
      · cases hg
    · cases hg
  · cases hg
section
variable {X : Cx} {e : Expr} {es : List Expr} {x : Str} {p pos : Pos} {fs : FLs}
theorem df_sortD (hc : X.calm = true) (hg : Gl X "sorted") (hm : X.mg "sorted" = none) (ha : PA X (e :: es) (tLs X.K fs))
    (he : starEach (e :: es) X.env = (false, eval e X.env) :: starEach es X.env := by rfl) (hpl : (backTo pos (starEach es X.env)).any (·.1) = false := by rfl) : PE X (.Call (.Name "sorted" p) (e :: es) [] pos) (tF X.K (fB gSortD fs)) :=
  PE.weak (pe_callB (call_sortedDT hc) hg hm (by decide +kernel) ha (by decide) (by decide) he hpl) fun _ _ _ => tCB_ofM g_sortD
end
end DL
/-! The data layer: zip of two sequences, each a list or a tuple. -/
namespace DL
open PySem PySem.Spec PyProof.Rows L2

/-- the object at c is kept -/
def At (h h' : Heap) (c : Addr) : Prop := ∀ o, h.get? c = some o → h'.get? c = some o
theorem At.trans {h h1 h2 : Heap} {c : Addr} (a : At h h1 c) (b : At h1 h2 c) : At h h2 c := fun o e => b o (a o e)
theorem At.same {a c : Addr} {h h' : Heap} (s : Heap.SameBut a h h') (n : c ≠ a) : At h h' c := fun o e => s.extBut c o n e
/-- an iterator it over the sequence l -/
structure Src (prog : Program) (w : World) (it l : Addr) (items : Array Value) (St : Nat → Heap → Prop) : Prop where
  keep : ∀ i h h', St i h → At h h' it → At h h' l → St i h'
  there : ∀ i h, St i h → ∃ o, h.get? it = some o ∧ ∀ v, o.data ≠ .cell v
  item : ∀ (A : Around) (E : Value → Shared → Prop) (s : Shared) (i : Nat) (x : Value) (Q : Value → Shared → Prop), St i s.heap → items[i]? = some x → (∀ h', (it ≠ l → St (i + 1) h') → Heap.SameBut it s.heap h' → Q x { s with heap := h' }) → wpAny (model prog w) A (Builtin.SmallTypes.nextOf (.ref it)) Q E s
  stop : ∀ (A : Around) (E : Value → Shared → Prop) (s : Shared) (i : Nat) (Q : Value → Shared → Prop), A.handled = none → St i s.heap → items[i]? = none →
    (∀ h' e, Heap.ExtBut it s.heap h' → (∃ o, h'.get? e = some o ∧ o.cls = .type "StopIteration") → E (.ref e) { s with heap := h' }) → wpAny (model prog w) A (Builtin.SmallTypes.nextOf (.ref it)) Q E s
theorem src_list {prog : Program} {w : World} {it l : Addr} {items : Array Value} : Src prog w it l items (fun i h => h.IsListIter it l i ∧ h.IsList l items) where
  keep := fun i h h' st a b => ⟨st.1.at a, st.2.at b⟩
  there := fun i h st => let ⟨o, e, _, d⟩ := st.1; ⟨o, e, fun v z => by rw [d] at z; cases z⟩
  item := fun A E s i x Q st hx q => wpAny_nextOf_list_item st.1 st.2 hx fun h' n sb => q h' (fun ne => ⟨n, st.2.extBut sb.extBut ne.symm⟩) sb
  stop := fun A E s i Q hh st hx q => wpAny_nextOf_list_end hh st.1 st.2 hx q
theorem src_tup {prog : Program} {w : World} {it l : Addr} {items : Array Value} : Src prog w it l items (fun i h => h.IsTupleIter it l i ∧ h.IsTuple l items) where
  keep := fun i h h' st a b => ⟨st.1.at a, st.2.at b⟩
  there := fun i h st => let ⟨o, e, _, d⟩ := st.1; ⟨o, e, fun v z => by rw [d] at z; cases z⟩
  item := fun A E s i x Q st hx q => RZ.nextOf_tuple_item st.1 st.2 hx fun h' n sb => q h' (fun ne => ⟨n, st.2.extBut sb.extBut ne.symm⟩) sb
  stop := fun A E s i Q hh st hx q => RZ.nextOf_tuple_end hh st.1 st.2 hx q
section
variable {prog : Program} {w : World} {A : Around} {E : Value → Shared → Prop} {s : Shared} {z TI TO i1 i2 l1 l2 : Addr} {xs ys : Array Value} {S1 S2 : Nat → Heap → Prop} {k : Nat} {a b : Value}
/-- kept but for the zip's own parts -/
def ZKeep (z TO i1 i2 : Addr) (h h' : Heap) : Prop := ∀ c, c ≠ z → c ≠ TO → c ≠ i1 → c ≠ i2 → At h h' c
theorem zipN_item {x y : Value} {Q : Value → Shared → Prop} (P1 : Src prog w i1 l1 xs S1) (P2 : Src prog w i2 l2 ys S2) (D : ZipApart z TI TO i1 i2 l1 l2) (hz : IsZip s.heap z TI TO .none) (hTI : IsPair s.heap TI (.ref i1) (.ref i2)) (hTO : IsPair s.heap TO a b)
    (st1 : S1 k s.heap) (st2 : S2 k s.heap) (hx : xs[k]? = some x) (hy : ys[k]? = some y)
    (hQ : ∀ h', IsZip h' z TI TO (rawInt s.heap.objs.size) → IsPair h' TO x y → S1 (k + 1) h' → S2 (k + 1) h' → IsPair h' s.heap.objs.size x y → ZKeep z TO i1 i2 s.heap h' → Q (.ref s.heap.objs.size) { s with heap := h' }) :
    wpAny (model prog w) A (Builtin.«zip.__next__» ⟨[.ref z], []⟩) (fun fin s' => ∃ v, fin = .done (.ret v) ∧ Q v s') E s := by
  show wpAny _ _ (field (.ref z) 2 >>= _) _ _ _
  refine wpAny_bind (wpAny_field hz rfl (x := .bool false) rfl ?_)
  show wpAny _ _ (field (.ref z) 3 >>= _) _ _ _
  refine wpAny_bind (wpAny_field hz rfl (x := .ref TI) rfl (wpAny_bind (wpAny_seqItems hTI rfl ?_)))
  show wpAny _ _ (Builtin.SmallTypes.ownedTupleIsFree (.ref z) >>= _) _ _ _
  refine wpAny_bind ?_
  unfold Builtin.SmallTypes.ownedTupleIsFree
  refine wpAny_bind (wpAny_field hz rfl (x := .none) rfl (wpAny_pure ?_))
  simp only [if_true]
  refine wpAny_bind (wpAny_rule (wpAny_bind (wpAny_field hz rfl (x := .ref TO) rfl (wpAny_bind (wpAny_setField_rec hz (by simp) fun g1 z1 e1 => ?_)))))
  have z1 : IsZip g1 z TI TO .ellipsis := z1
  refine wpAny_bind ?_
  simp only [List.zipIdx_cons, List.zipIdx_nil, List.forIn_cons, List.forIn_nil]
  -- the first
  refine wpAny_bind (wpAny_bind (wpAny_onRaise ?_))
  show wpAny _ _ (Builtin.SmallTypes.nextOf (.ref i1) >>= _) _ _ _
  have a1 : S1 k g1 := P1.keep _ _ _ st1 (.same e1 D.i1z) (.same e1 D.l1z)
  refine wpAny_bind (P1.item _ _ _ _ _ _ a1 hx fun g2 n1 e2 => wpAny_pure ?_)
  have a1 : S1 (k + 1) g2 := n1 D.l1i1.symm
  have t2 : IsPair g2 TO a b := (At.same e1 D.TOz).trans (.same e2 D.TOi1) _ hTO
  refine wpAny_bind (wpAny_seqItems t2 rfl (wpAny_bind (wpAny_updateSeq_pair t2 fun g3 t3 e3 => ?_)))
  have t3 : IsPair g3 TO x b := t3
  refine wpAny_bind (wpAny_letGo (wpAny_pure ?_))
  -- the second
  refine wpAny_bind (wpAny_bind (wpAny_onRaise ?_))
  show wpAny _ _ (Builtin.SmallTypes.nextOf (.ref i2) >>= _) _ _ _
  have a2 : S2 k g3 := P2.keep _ _ _ st2 (((At.same e1 D.i2z).trans (.same e2 D.i12.symm)).trans (.same e3 D.TOi2.symm)) (((At.same e1 D.l2z).trans (.same e2 D.l2i1)).trans (.same e3 D.l2TO))
  refine wpAny_bind (P2.item _ _ _ _ _ _ a2 hy fun g4 n2 e4 => wpAny_pure ?_)
  have a2 : S2 (k + 1) g4 := n2 D.l2i2.symm
  have t4 : IsPair g4 TO x b := At.same e4 D.TOi2 _ t3
  refine wpAny_bind (wpAny_seqItems t4 rfl (wpAny_bind (wpAny_updateSeq_pair t4 fun g5 t5 e5 => ?_)))
  have t5 : IsPair g5 TO x y := t5
  refine wpAny_bind (wpAny_letGo (wpAny_pure (wpAny_pure ?_)))
  -- the new pair
  refine wpAny_bind (wpAny_seqItems t5 rfl (wpAny_bind (wpAny_newTuple ?_)))
  have size5 : g5.objs.size = s.heap.objs.size := by rw [e5.1, e4.1, e3.1, e2.1, e1.1]
  have z5 : IsZip g5 z TI TO .ellipsis := (((At.same e2 D.i1z.symm).trans (.same e3 D.TOz.symm)).trans (.same e4 D.i2z.symm)).trans (.same e5 D.TOz.symm) _ z1
  have k5 : ZKeep z TO i1 i2 s.heap g5 := fun c c1 c2 c3 c4 => ((((At.same e1 c1).trans (.same e2 c3)).trans (.same e3 c2)).trans (.same e4 c4)).trans (.same e5 c2)
  have b1 : S1 (k + 1) g5 := P1.keep _ _ _ a1 (((At.same e3 D.TOi1.symm).trans (.same e4 D.i12)).trans (.same e5 D.TOi1.symm)) (((At.same e3 D.l1TO).trans (.same e4 D.l1i2)).trans (.same e5 D.l1TO))
  have b2 : S2 (k + 1) g5 := P2.keep _ _ _ a2 (.same e5 D.TOi2.symm) (.same e5 D.l2TO)
  have zlt : z < g5.objs.size := Heap.lt_size z5
  show wpAny _ _ (Builtin.SmallTypes.ownedTupleHandOut (.ref z) (.ref g5.objs.size) >>= _) _ _ _
  refine wpAny_bind ?_
  unfold Builtin.SmallTypes.ownedTupleHandOut
  have z6 : IsZip (g5.push { cls := .type "tuple", data := .seq #[x, y] }) z TI TO .ellipsis := Heap.get?_push_of_some _ z5
  refine wpAny_bind (wpAny_setField_rec z6 (by simp) fun g7 z7 e7 => ?_)
  have z7 : IsZip g7 z TI TO (rawInt g5.objs.size) := z7
  refine wpAny_setField_rec z7 (by simp) fun g8 z8 e8 => ?_
  have z8 : IsZip g8 z TI TO (rawInt g5.objs.size) := z8
  have up : ∀ c, c ≠ z → At g5 g8 c := fun c n => At.trans (fun o e => e7.extBut c o n (Heap.get?_push_of_some _ e)) (.same e8 n)
  have new8 : IsPair g8 g5.objs.size x y := e8.extBut _ _ (Nat.ne_of_gt zlt) (e7.extBut _ _ (Nat.ne_of_gt zlt) (Heap.get?_push_size _ rfl))
  refine wpAny_pure ⟨_, rfl, ?_⟩
  show Q (.ref g5.objs.size) _
  rw [size5] at z8 new8 ⊢
  exact hQ g8 z8 (up _ D.TOz _ t5) (P1.keep _ _ _ b1 (up _ D.i1z) (up _ D.l1z)) (P2.keep _ _ _ b2 (up _ D.i2z) (up _ D.l2z)) new8 fun c c1 c2 c3 c4 => (k5 c c1 c2 c3 c4).trans (up c c1)
theorem zipN_end {Q : PySem.Fin → Shared → Prop} (hh : A.handled = none) (P1 : Src prog w i1 l1 xs S1) (P2 : Src prog w i2 l2 ys S2) (D : ZipApart z TI TO i1 i2 l1 l2) (hz : IsZip s.heap z TI TO .none) (hTI : IsPair s.heap TI (.ref i1) (.ref i2)) (hTO : IsPair s.heap TO a b)
    (st1 : S1 k s.heap) (st2 : S2 k s.heap) (hend : xs[k]? = none ∨ ys[k]? = none)
    (hE : ∀ h' e, ZKeep z TO i1 i2 s.heap h' → (∃ o, h'.get? e = some o ∧ o.cls = .type "StopIteration") → E (.ref e) { s with heap := h' }) : wpAny (model prog w) A (Builtin.«zip.__next__» ⟨[.ref z], []⟩) Q E s := by
  show wpAny _ _ (field (.ref z) 2 >>= _) _ _ _
  refine wpAny_bind (wpAny_field hz rfl (x := .bool false) rfl ?_)
  show wpAny _ _ (field (.ref z) 3 >>= _) _ _ _
  refine wpAny_bind (wpAny_field hz rfl (x := .ref TI) rfl (wpAny_bind (wpAny_seqItems hTI rfl ?_)))
  show wpAny _ _ (Builtin.SmallTypes.ownedTupleIsFree (.ref z) >>= _) _ _ _
  refine wpAny_bind ?_
  unfold Builtin.SmallTypes.ownedTupleIsFree
  refine wpAny_bind (wpAny_field hz rfl (x := .none) rfl (wpAny_pure ?_))
  simp only [if_true]
  refine wpAny_bind (wpAny_rule (wpAny_bind (wpAny_field hz rfl (x := .ref TO) rfl (wpAny_bind (wpAny_setField_rec hz (by simp) fun g1 z1 e1 => ?_)))))
  have z1 : IsZip g1 z TI TO .ellipsis := z1
  refine wpAny_bind ?_
  simp only [List.zipIdx_cons, List.zipIdx_nil, List.forIn_cons, List.forIn_nil]
  -- an end: the zip is closed behind it
  have close : ∀ {g : Heap} {e : Addr}, ZKeep z TO i1 i2 s.heap g → IsZip g z TI TO .ellipsis → (∃ o, g.get? e = some o ∧ o.cls = .type "StopIteration") → ∀ g', Heap.SameBut z g g' → E (.ref e) { s with heap := g' } := by
    intro g e kp zg ⟨oe, he, ce⟩ g' sb
    have ne : e ≠ z := fun q => by rw [q, zg] at he; cases he; simp at ce
    exact hE g' e (fun c c1 c2 c3 c4 => (kp c c1 c2 c3 c4).trans (.same sb c1)) ⟨oe, sb.extBut _ _ ne he, ce⟩
  refine wpAny_bind (wpAny_bind (wpAny_onRaise ?_))
  show wpAny _ _ (Builtin.SmallTypes.nextOf (.ref i1) >>= _) _ _ _
  have a1 : S1 k g1 := P1.keep _ _ _ st1 (.same e1 D.i1z) (.same e1 D.l1z)
  cases hx : xs[k]? with
  | none =>
    refine wpAny_bind (P1.stop _ _ _ _ _ hh a1 hx fun g2 e x2 he => ?_)
    have z2 : IsZip g2 z TI TO .ellipsis := x2 _ _ D.i1z.symm z1
    exact wpAny_setField_rec z2 (by simp) fun g3 _ e3 => close (fun c c1 _ c3 _ => (At.same e1 c1).trans fun o q => x2 c o c3 q) z2 he g3 e3
  | some x =>
    have hy : ys[k]? = none := hend.elim (fun h => by rw [hx] at h; cases h) id
    refine wpAny_bind (P1.item _ _ _ _ _ _ a1 hx fun g2 n1 e2 => wpAny_pure ?_)
    have t2 : IsPair g2 TO a b := (At.same e1 D.TOz).trans (.same e2 D.TOi1) _ hTO
    refine wpAny_bind (wpAny_seqItems t2 rfl (wpAny_bind (wpAny_updateSeq_pair t2 fun g3 t3 e3 => ?_)))
    refine wpAny_bind (wpAny_letGo (wpAny_pure (wpAny_bind (wpAny_bind (wpAny_onRaise ?_)))))
    show wpAny _ _ (Builtin.SmallTypes.nextOf (.ref i2) >>= _) _ _ _
    have a2 : S2 k g3 := P2.keep _ _ _ st2 (((At.same e1 D.i2z).trans (.same e2 D.i12.symm)).trans (.same e3 D.TOi2.symm)) (((At.same e1 D.l2z).trans (.same e2 D.l2i1)).trans (.same e3 D.l2TO))
    refine wpAny_bind (P2.stop _ _ _ _ _ hh a2 hy fun g4 e x4 he => ?_)
    have z4 : IsZip g4 z TI TO .ellipsis := x4 _ _ D.i2z.symm (((At.same e2 D.i1z.symm).trans (.same e3 D.TOz.symm)) _ z1)
    exact wpAny_setField_rec z4 (by simp) fun g5 _ e5 => close (fun c c1 c2 c3 c4 => (((At.same e1 c1).trans (.same e2 c3)).trans (.same e3 c2)).trans fun o q => x4 c o c4 q) z4 he g5 e5
theorem zipN_next {x y : Value} {Q : Option Value → Shared → Prop} (P1 : Src prog w i1 l1 xs S1) (P2 : Src prog w i2 l2 ys S2) (D : ZipApart z TI TO i1 i2 l1 l2) (hz : IsZip s.heap z TI TO .none) (hTI : IsPair s.heap TI (.ref i1) (.ref i2)) (hTO : IsPair s.heap TO a b)
    (st1 : S1 k s.heap) (st2 : S2 k s.heap) (hx : xs[k]? = some x) (hy : ys[k]? = some y)
    (hQ : ∀ h', IsZip h' z TI TO (rawInt s.heap.objs.size) → IsPair h' TO x y → S1 (k + 1) h' → S2 (k + 1) h' → IsPair h' s.heap.objs.size x y → ZKeep z TO i1 i2 s.heap h' → Q (some (.ref s.heap.objs.size)) { s with heap := h' }) : wpAny (model prog w) A (pyNext (.ref z)) Q E s := by
  have hT : s.TypeIs (.ref z) "zip" := ⟨_, hz, rfl⟩
  unfold pyNext
  exact wpAny_bind (wpAny_attempt (wpAny_callSpecial?_slot (name := Str.ofString "__next__") hT F.slot_zip_next (wpAny_call_entry F.slot_zip_next hT F.entry_zip_next
    (zipN_item P1 P2 D hz hTI hTO st1 st2 hx hy fun h' b1 b2 b3 b4 b5 b6 => wpAny_pure (hQ h' b1 b2 b3 b4 b5 b6)) (F.args_zip_next_1 _))))
theorem zipN_stop {Q : Option Value → Shared → Prop} (hh : A.handled = none) (P1 : Src prog w i1 l1 xs S1) (P2 : Src prog w i2 l2 ys S2) (D : ZipApart z TI TO i1 i2 l1 l2) (hz : IsZip s.heap z TI TO .none) (hTI : IsPair s.heap TI (.ref i1) (.ref i2)) (hTO : IsPair s.heap TO a b)
    (st1 : S1 k s.heap) (st2 : S2 k s.heap) (hend : xs[k]? = none ∨ ys[k]? = none) (hQ : ∀ h', ZKeep z TO i1 i2 s.heap h' → Q none { s with heap := h' }) : wpAny (model prog w) A (pyNext (.ref z)) Q E s := by
  have hT : s.TypeIs (.ref z) "zip" := ⟨_, hz, rfl⟩
  unfold pyNext
  refine wpAny_bind (wpAny_attempt (wpAny_callSpecial?_slot (name := Str.ofString "__next__") hT F.slot_zip_next (wpAny_call_entry F.slot_zip_next hT F.entry_zip_next (zipN_end hh P1 P2 D hz hTI hTO st1 st2 hend fun h' e kp he => ?_) (F.args_zip_next_1 _))))
  obtain ⟨o, ho, hc⟩ := he
  exact wpAny_bind (wpAny_isInstance (T := "StopIteration") (b := true) ⟨o, ho, hc⟩ isSubtype_stop (wpAny_pure (hQ _ kp)))
end
end DL
/-! The data layer: zip of a list and a tuple. -/
namespace DL
open PySem PySem.Spec PyProof.Rows L2

/-- the heap behind zip(l1, l2), the iterators o1 and o2 -/
def zHp (h : Heap) (o1 o2 : Obj) : Heap := ((((h.push o1).push o2).push { cls := .type "tuple", data := .seq #[.ref h.objs.size, .ref (h.objs.size + 1)] }).push { cls := .type "tuple", data := .seq #[.none, .none] }).push { cls := .type "zip", data := .fields #[.none, .bool false, .bool false, .ref (h.objs.size + 2), .ref (h.objs.size + 3)] }
abbrev liObj (l : Addr) : Obj := { cls := .type "list_iterator", data := .fields #[.ref l, .int 0 0] }
abbrev tiObj (l : Addr) : Obj := { cls := .type "tuple_iterator", data := .fields #[.ref l, .int 0 0] }
theorem meets_zipLT (l1 l2 : Addr) (xs ys : Array Value) : Meets (Builtin.«zip.__new__» ⟨[.type "zip", .ref l1, .ref l2], []⟩) (fun _ R s => s.heap.IsList l1 xs ∧ s.heap.IsTuple l2 ys ∧ R (.ok (.ret (.ref (s.heap.objs.size + 4)))) { s with heap := zHp s.heap (liObj l1) (tiObj l2) }) :=
  .of_wp fun prog w A R s h => by
    obtain ⟨hp, g, d, tk, os⟩ := s
    obtain ⟨h1, h2, h⟩ := h
    have hsub := sub_zip
    have g1 : Heap.IsList (Shared.heap ⟨hp, g, d, tk, os⟩) l1 xs := h1
    have g2 : Heap.IsTuple (Shared.heap ⟨hp.push (liObj l1), g, d, tk, os⟩) l2 ys := Heap.IsTuple.push h2 _
    unfold zHp at h
    wp_walk using wpAny_pyIter_list g1, wpAny_pyIter_tuple g2
    refine ⟨_, rfl, ?_⟩
    simp only [Heap.size_push] at h ⊢
    exact h
theorem zHp_at (h : Heap) (o1 o2 : Obj) (f1 : o1.isFreed = false) (f2 : o2.isFreed = false) : (zHp h o1 o2).get? h.objs.size = some o1 ∧ (zHp h o1 o2).get? (h.objs.size + 1) = some o2 ∧ IsPair (zHp h o1 o2) (h.objs.size + 2) (.ref h.objs.size) (.ref (h.objs.size + 1)) ∧ IsPair (zHp h o1 o2) (h.objs.size + 3) .none .none ∧
    IsZip (zHp h o1 o2) (h.objs.size + 4) (h.objs.size + 2) (h.objs.size + 3) .none ∧ ∀ c o, h.get? c = some o → (zHp h o1 o2).get? c = some o := by
  have up : ∀ {g : Heap} {c : Addr} {o p : Obj}, g.get? c = some o → (g.push p).get? c = some o := fun e => Heap.get?_push_of_some _ e
  have s1 : (h.push o1).objs.size = h.objs.size + 1 := Heap.size_push ..
  have s2 : ((h.push o1).push o2).objs.size = h.objs.size + 2 := by rw [Heap.size_push, s1]
  refine ⟨up (up (up (up (Heap.get?_push_size _ f1)))), up (up (up ?_)), up (up ?_), up ?_, ?_, fun c o e => up (up (up (up (up e))))⟩
  · rw [← s1]; exact Heap.get?_push_size _ f2
  · rw [← s2]; exact Heap.get?_push_size _ rfl
  · show _ = some _
    rw [show h.objs.size + 3 = (((h.push o1).push o2).push { cls := .type "tuple", data := .seq #[.ref h.objs.size, .ref (h.objs.size + 1)] }).objs.size by rw [Heap.size_push, s2]]
    exact Heap.get?_push_size _ rfl
  · show _ = some _
    unfold zHp
    rw [show h.objs.size + 4 = ((((h.push o1).push o2).push { cls := .type "tuple", data := .seq #[.ref h.objs.size, .ref (h.objs.size + 1)] }).push { cls := .type "tuple", data := .seq #[.none, .none] }).objs.size by rw [Heap.size_push, Heap.size_push, s2]]
    exact Heap.get?_push_size _ rfl
def ItzM (K : PySem.W.Frag) (a b : Addr) : It :=
  ⟨fun i H => ∃ xs ys x y, SqL K H a xs ∧ SqT K H b ys ∧ xs[i]? = some x ∧ ys[i]? = some y,
    fun i H v H' => ∃ T x y, v = .ref T ∧ H T = none ∧ H' = upd H T (.tup [x, y]) ∧ (∀ xs, SqL K H a xs → xs[i]? = some x) ∧ ∀ ys, SqT K H b ys → ys[i]? = some y,
    fun i H => ∃ xs ys, SqL K H a xs ∧ SqT K H b ys ∧ (xs.length ≤ i ∨ ys.length ≤ i)⟩
theorem turn_zipM {P : Program} {w : World} {K : PySem.W.Frag} {elts : List Expr} {kk : Nat} {tpos : Pos} {a b z TI TO i1 i2 : Addr} (D : ZipApart z TI TO i1 i2 a b) :
    Turn P w K (.Tuple elts kk tpos) (ItzM K a b) [z, TI, TO, i1, i2] z (fun i h => IsZip h z TI TO .none ∧ IsPair h TI (.ref i1) (.ref i2) ∧ (∃ x y, IsPair h TO x y) ∧ h.IsListIter i1 a i ∧ h.IsTupleIter i2 b i) where
  mem := List.mem_cons_self
  obj := fun i h ⟨hz, hTI, ⟨x, y, hTO⟩, ⟨o1, e1, _, d1⟩, ⟨o2, e2, _, d2⟩⟩ c hc => by
    simp only [List.mem_cons, List.not_mem_nil, or_false] at hc
    rcases hc with rfl | rfl | rfl | rfl | rfl
    · exact ⟨_, hz, fun v q => nomatch q⟩
    · exact ⟨_, hTI, fun v q => nomatch q⟩
    · exact ⟨_, hTO, fun v q => nomatch q⟩
    · exact ⟨o1, e1, fun v q => by rw [d1] at q; cases q⟩
    · exact ⟨o2, e2, fun v q => by rw [d2] at q; cases q⟩
  keep := fun i h h' ⟨hz, hTI, ⟨x, y, hTO⟩, h1, h2⟩ k => ⟨k z (by simp) _ hz, k TI (by simp) _ hTI, ⟨x, y, k TO (by simp) _ hTO⟩, h1.at fun o q => k i1 (by simp) o q, h2.at fun o q => k i2 (by simp) o q⟩
  item := by
    intro X hP hw hK hc i pins s σ H E I hf ⟨hz, hTI, ⟨x0, y0, hTO⟩, h1, h2⟩ ⟨xs, ys, x, y, qx, qy, hx, hy⟩
    subst hP hw hK
    obtain ⟨its, rv, p1, _⟩ := I.list qx
    obtain ⟨its2, rv2, p2, _⟩ := I.tuple qy
    obtain ⟨u, hu, ru⟩ := rv.get hx
    obtain ⟨u2, hu2, ru2⟩ := rv2.get hy
    have zl : z < s.heap.objs.size := Heap.lt_size hz
    have p2' : s.heap.IsTuple b its2.toArray := p2
    refine zipN_next (x := u) (y := u2) src_list src_tup D hz hTI hTO ⟨h1, p1.isList⟩ ⟨h2, p2'⟩ (by simpa using hu) (by simpa using hu2) fun h' z' TO' st1 st2 pair kp => ⟨_, rfl, wpAny_letOwnedTupleGo_zip (s := { s with heap := h' }) z' fun h'' z'' sb => ?_⟩
    have pair2 : h''.get? s.heap.objs.size = some { cls := .type "tuple", data := .seq #[u, u2] } := (sb.2 _ (Nat.ne_of_gt zl)).trans pair
    have not : ∀ {c : Addr}, c ∉ [z, TI, TO, i1, i2] → c ≠ z ∧ c ≠ TO ∧ c ≠ i1 ∧ c ≠ i2 := fun {c} hc => by
      simp only [List.mem_cons, List.not_mem_nil, or_false, not_or] at hc
      exact ⟨hc.1, hc.2.2.1, hc.2.2.2.1, hc.2.2.2.2⟩
    have I1 : Inv X pins σ (upd H s.heap.objs.size (.tup [x, y])) { s with heap := h'' } :=
      I.turnedNew (t' := s.toks) (ch := [z, TI, TO, i1, i2]) (fun c o hb q => (sb.2 c (not hb).1).trans (kp c (not hb).1 (not hb).2.1 (not hb).2.2.1 (not hb).2.2.2 o q)) hf (Nat.le_refl _)
        ⟨by rw [sizeLine_eq]; exact (by decide : (2 : Nat) ≤ 16777216), [u, u2], .cons ru (.cons ru2 .nil), ⟨_, pair2, rfl, _, rfl⟩⟩
    refine ⟨.ref s.heap.objs.size, _, I1, rfl, ⟨_, x, y, rfl, I.hok.fresh (Nat.le_refl _), rfl, fun l hl => by rw [I.list_inj hl qx]; exact hx, fun l hl => by rw [I.tuple_inj hl qy]; exact hy⟩, ⟨z'', ?_, ⟨u, u2, ?_⟩, ?_, ?_⟩, fun c hcm => ?_⟩
    · exact (sb.2 _ D.TIz).trans (kp _ D.TIz D.TITO D.TIi1 D.TIi2 _ hTI)
    · exact (sb.2 _ D.TOz).trans TO'
    · exact st1.1.at fun o q => (sb.2 _ D.i1z).trans q
    · exact st2.1.at fun o q => (sb.2 _ D.i2z).trans q
    · have fc := (hf c hcm).1
      have lt : c < s.heap.objs.size := by
        simp only [List.mem_cons, List.not_mem_nil, or_false] at hcm
        obtain ⟨_, e1, _⟩ := h1
        obtain ⟨_, e2, _⟩ := h2
        rcases hcm with rfl | rfl | rfl | rfl | rfl
        · exact zl
        · exact Heap.lt_size hTI
        · exact Heap.lt_size hTO
        · exact Heap.lt_size e1
        · exact Heap.lt_size e2
      rw [upd_ne (Nat.ne_of_lt lt)]
      exact fc
  done := by
    intro X hP hw hK hc i pins s σ H E I hf ⟨hz, hTI, ⟨x0, y0, hTO⟩, h1, h2⟩ ⟨xs, ys, qx, qy, hend⟩
    subst hP hw hK
    obtain ⟨its, rv, p1, _⟩ := I.list qx
    obtain ⟨its2, rv2, p2, _⟩ := I.tuple qy
    have l1 := rv.length
    have l2 := rv2.length
    have p2' : s.heap.IsTuple b its2.toArray := p2
    refine zipN_stop (I.ok.hd hc) src_list src_tup D hz hTI hTO ⟨h1, p1.isList⟩ ⟨h2, p2'⟩ (hend.imp (fun q => by simp; omega) fun q => by simp; omega) fun h' kp => ⟨rfl, I.turnedL (t' := s.toks) (ch := [z, TI, TO, i1, i2]) (fun c o hb q => ?_) hf⟩
    simp only [List.mem_cons, List.not_mem_nil, or_false, not_or] at hb
    exact kp c hb.1 hb.2.2.1 hb.2.2.2.1 hb.2.2.2.2 o q
  self := fun A i s Q E st h => wpAny_pyIter_zip st.1 h
section
variable {X : Cx} {e e2 : Expr} {p pos tpos : Pos} {elts : List Expr} {kk : Nat}
theorem pi_zipM {ta : TA} (hg : Gl X "zip") (hm : X.mg "zip" = none) (ha : PA X [e, e2] ta) (hs : starEach [e, e2] X.env = (false, eval e X.env) :: starEach [e2] X.env := by rfl) (hpl : (backTo pos (starEach [e2] X.env)).any (·.1) = false := by rfl) :
    PI X (.Tuple elts kk tpos) (.Call (.Name "zip" p) [e, e2] [] pos) (fun σ H R => ta σ H fun vs H1 => ∃ a b xs ys, vs = [.ref a, .ref b] ∧ SqL X.K H1 a xs ∧ SqT X.K H1 b ys ∧ R (ItzM X.K a b) H1) := by
  refine ⟨fun pins s σ H R I h => Call_ (ld_blt I hg hm PyProof.Rows.boot_zip (PyProof.Rows.callWith_type1 (thn (ha.run pos pins s σ H _ I h) fun us s1 ⟨vs, H1, I1, r1, a, b, xs, ys, ex, qx, qy, q⟩ => ?_) hs hpl))⟩
  subst ex
  obtain ⟨u1, u2, rfl, r1, r2⟩ := vals2 r1
  cases r1
  cases r2
  obtain ⟨its, rv, p1, _⟩ := I1.list qx
  obtain ⟨its2, rv2, p2, _⟩ := I1.tuple qy
  have p2' : s1.heap.IsTuple b its2.toArray := p2
  obtain ⟨o2, ho2, _⟩ := id p2
  refine callType_new F.called_zip (by decide) (F.typeCall_zip_2 _ _) (F.newCall_zip_2 _ _) (fun obj => F.args_object_init_3 obj _ _) F.entry_zip_new (meets_zipLT a b its.toArray its2.toArray) ⟨p1.isList, p2', ?_⟩
  obtain ⟨b1, b2, b3, b4, b5, kp⟩ := zHp_at s1.heap (liObj a) (tiObj b) rfl rfl
  refine ⟨⟨_, b5, rfl⟩, wpAny_pyIter_zip b5 ?_⟩
  refine ⟨s1.heap.objs.size + 4, [s1.heap.objs.size + 4, s1.heap.objs.size + 2, s1.heap.objs.size + 3, s1.heap.objs.size, s1.heap.objs.size + 1], _, _, H1, rfl, I1.kept (t' := s1.toks) kp, turn_zipM (PySem.W.ktu_apart s1.heap.objs.size a b p1.lt (Heap.lt_size ho2)), ⟨b5, b3, ⟨_, _, b4⟩, ⟨_, b1, rfl, rfl⟩, ⟨_, b2, rfl, rfl⟩⟩, fun c hc => ?_, q⟩
  have le : s1.heap.objs.size ≤ c := by
    simp only [List.mem_cons, List.not_mem_nil, or_false] at hc
    rcases hc with rfl | rfl | rfl | rfl | rfl <;> first | exact Nat.le_add_right _ _ | exact Nat.le_refl _
  exact I1.fpOk le (I1.hok.fresh le)
end
theorem iter_zipM {K : PySem.W.Frag} {H : Hp} {A : Ax} {a b : Addr} {xs ys : List V} {ds es : List D} (h1 : H a = some (.lst xs)) (n1 : ¬ A a) (s1 : IsDs H A xs ds) (h2 : Rd H b (.tup ys)) (n2 : ¬ A b) (s2 : IsDs H A ys es) :
    IterD (ItzM K a b) ((ds.zip es).map fun p => .tup [p.1, p.2]) H A := by
  intro i Hi A' k hA
  have r1 : SqL K Hi a xs := SqL.of (k.keep _ _ h1 n1)
  have r2 : SqT K Hi b ys := .inl (h2.imp (fun h => k.keep _ _ h n2) fun ⟨o, h⟩ => ⟨o, k.keep _ _ h n2⟩)
  refine ⟨fun d e => ?_, fun hl => ⟨xs, ys, r1, r2, ?_⟩⟩
  · obtain ⟨x, y, e1, e2, rfl⟩ := zip_at e
    obtain ⟨v, f1, i1⟩ := s1.get e1
    obtain ⟨u, f2, i2⟩ := s2.get e2
    refine ⟨⟨xs, ys, v, u, r1, r2, f1, f2⟩, fun z H' y => ?_⟩
    obtain ⟨T, v', u', rfl, hT, rfl, y1, y2⟩ := y
    have ev := y1 xs r1
    have eu := y2 ys r2
    rw [f1] at ev
    rw [f2] at eu
    cases ev
    cases eu
    exact ⟨Gr.new hT, new_pair hT (mu_ne hA) (i1.kp k.kp) (i2.kp k.kp)⟩
  · rw [List.length_map, List.length_zip, ← s1.length, ← s2.length] at hl
    omega
def zipDM : D → D → Option (List D)
  | .lst xs, .tup ys => some ((xs.zip ys).map fun p => .tup [p.1, p.2])
  | .lst xs, .ptp ys => some ((xs.zip ys).map fun p => .tup [p.1, p.2])
  | _, _ => none
def fiZipM (f : FA) : FI := fun env => match f env with
  | none => none
  | some (ds, e) => match ds with
    | [x, y] => (zipDM x y).map fun r => (r, e)
    | _ => none
section
variable {X : Cx} {e e2 : Expr} {p pos tpos : Pos} {elts : List Expr} {kk : Nat}
theorem di_zipM {f : FA} (hg : Gl X "zip") (hm : X.mg "zip" = none) (ha : PA X [e, e2] (tA X.K f)) (hs : starEach [e, e2] X.env = (false, eval e X.env) :: starEach [e2] X.env := by rfl) (hpl : (backTo pos (starEach [e2] X.env)).any (·.1) = false := by rfl) :
    PI X (.Tuple elts kk tpos) (.Call (.Name "zip" p) [e, e2] [] pos) (tI X.K (fiZipM f)) := by
  refine PI.weak (pi_zipM hg hm ha hs hpl) ?_
  rintro σ H R ⟨F, env, as, ds, env', hK, E, ef, q⟩
  unfold fiZipM at ef
  cases r1 : f env with
  | none => rw [r1] at ef; cases ef
  | some p =>
    obtain ⟨xs, e1⟩ := p
    simp only [r1] at ef
    split at ef
    · rename_i x y
      cases r2 : zipDM x y with
      | none => rw [r2] at ef; cases ef
      | some r =>
        rw [r2] at ef
        cases ef
        refine ⟨F, env, as, _, _, hK, E, r1, fun vs H1 as1 E1 S1 i1 => ?_⟩
        cases i1 with
        | cons i1 t =>
          cases t with
          | cons i2 t =>
            cases t
            unfold zipDM at r2
            split at r2
            · cases r2
              cases i1 with
              | lst h1 n1 s1 => cases i2 with
                | tup h2 n2 s2 => exact ⟨_, _, _, _, rfl, SqL.of h1, SqT.of h2, q _ H1 as1 E1 S1 (iter_zipM h1 n1 s1 (.inl h2) n2 s2)⟩
            · cases r2
              cases i1 with
              | lst h1 n1 s1 => cases i2 with
                | ptp h2 _ n2 s2 => exact ⟨_, _, _, _, rfl, SqL.of h1, .inl (.inr ⟨_, h2⟩), q _ H1 as1 E1 S1 (iter_zipM h1 n1 s1 (.inr ⟨_, h2⟩) n2 s2)⟩
            · cases r2
    · cases ef
end
end DL
/-! The data layer: a dict display of one pair. -/
namespace DL
open PySem PySem.Spec PyProof.Rows L2

section
variable {X : Cx} {k v : Expr} {pos : Pos} {tk tv : TE} {fk fv : FE}
theorem pe_dict1 {z : HO} (hz : z = .dK [] ∨ z = .dT []) (hu : X.A.units + 64 < cLine) (hk : PE X k tk) (hv : PE X v tv) :
    PE X (.Dict [some k] [v] pos) (fun σ H Q => ∀ D, H D = none → tk σ (upd H D z) fun y H1 => tv σ H1 fun x H2 => ∃ H3, DPut H2 D y x H3 ∧ Q (.ref D) H3) := by
  refine ⟨fun pins s σ H Q I h => wpAny_Dict_any rfl rfl (by simp) (by simp) ?_⟩
  have h := h s.heap.objs.size (I.hok.fresh (Nat.le_refl _))
  refine evalPairs_cons (thn (hk.run pins _ σ _ _ (empty_dt I z hz) h) fun ku s1 ⟨y, H1, I1, r1, q1⟩ => ?_)
  refine wpAny_bind (thn (hv.run pins s1 σ H1 _ I1 q1) fun vu s2 ⟨x, H2, I2, r2, H3, dp, q2⟩ => wpAny_bind (wpAny_standAt (wpAny_pure (evalPairs_nil ?_))))
  unfold PySem.storeAll
  rw [List.forIn_cons]
  refine wpAny_bind (wpAny_bind (set_dput hu I2 dp r1 r2 fun s3 I3 => wpAny_pure ?_))
  show wpAny _ _ (forIn [] PUnit.unit _) _ _ _
  rw [List.forIn_nil]
  exact wpAny_pure ⟨.ref s.heap.objs.size, H3, I3, rfl, q2⟩
/-- {k: v} -/
def fDict1 (tk : Bool) (fk fv : FE) : FE := fun env => match fk env with
  | none => none
  | some (kd, e1) => match fv e1 with
    | none => none
    | some (vd, e2) => (putD (dE tk) kd vd).map fun d => (d, e2)
theorem df_dict1 (tk : Bool) (hu : X.A.units + 64 < cLine) (hk : PE X k (tD X.K fk)) (hv : PE X v (tD X.K fv)) : PE X (.Dict [some k] [v] pos) (tF X.K (fDict1 tk fk fv)) := by
  refine PE.weak (pe_dict1 (hE_or tk) hu hk hv) ?_
  rintro σ H Q ⟨F, env, as, d, env', hK, E, ef, q⟩ D hD
  unfold fDict1 at ef
  cases r1 : fk env with
  | none => rw [r1] at ef; cases ef
  | some p1 =>
    obtain ⟨kd, e1⟩ := p1
    simp only [r1] at ef
    cases r2 : fv e1 with
    | none => rw [r2] at ef; cases ef
    | some p2 =>
      obtain ⟨vd, e2⟩ := p2
      simp only [r2] at ef
      cases r3 : putD (dE tk) kd vd with
      | none => rw [r3] at ef; cases ef
      | some d' =>
        rw [r3] at ef
        cases ef
        have g0 : Gr H (upd H D (hE tk)) := Gr.new hD
        have ED : EnvOk (F.add D) (upd H D (hE tk)) σ env as := E.more g0 hD ⟨_, upd_same, hE_mu tk⟩ E.trk
        refine ⟨F.add D, env, as, kd, e1, hK, ED, r1, fun y H1 as1 E1 S1 i1 => ⟨F.add D, e1, as1, vd, _, hK, E1, r2, fun x H2 as2 E2 S2 i2 => ?_⟩⟩
        have nD : ∀ {as : List (Option Addr)} {e : En} {σ : Sg} {H : Hp}, EnvOk (F.add D) H σ e as → some D ∉ as := fun E z => E.ap D z (Or.inr rfl)
        have S12 := S1.trans S2
        have hD2 : H2 D = some (hE tk) := S12.keep D _ upd_same (nD ED)
        obtain ⟨o, dp, ow, mo, _⟩ := put_dict (A := Av as2 (F.add D).B) (own_E tk hD2) (by cases tk <;> rfl) r3 (i1.st S2) i2 (Or.inr (Or.inr rfl))
        have E3 := E2.updB (o := o) (Or.inr rfl) mo
        have SD : StepD D as (upd H D (hE tk)) as2 (upd H2 D o) := (StepD.of S12).trans (StepD.upd (some_ne hD2))
        have nA : ¬ Av as2 F.B D := fun z => by
          rcases z with z | z
          · exact nD E3 z
          · exact E.av D (Or.inr z) hD
        refine ⟨_, dp, q D _ as2 E3 (SD.old hD (nD E3)) hD ⟨nA, ow.kp (Kp.less (A := Av as2 (F.add D).B) (A' := (Av as2 F.B).add D) rfl fun x z => ?_) fun _ e => e⟩⟩
        rcases z with (z | z) | z
        · exact Or.inl z
        · exact Or.inr (Or.inl z)
        · exact Or.inr (Or.inr z)
end
end DL
/-! The data layer: several names at once, one behind the other; a def's promise from its walk; the law's end. -/
namespace DL
open PySem PySem.Spec PyProof.Rows L2

theorem sParT_of {K : PySem.W.Frag} {is : List Nat} {fm : FM} {D : Ends} {σ : Sg} {H : Hp} (h : tS K (fPar is fm) D σ H) : tM K fm σ H fun vs H1 => vs.length = is.length ∧ ∀ T, H1 T = none → D.nx (setAll σ is vs) (upd H1 T (.tup vs)) := by
  obtain ⟨F, env, as, o, hK, E, ef, q⟩ := h
  refine sPar_of (D := { nx := fun σ' H1 => ∀ T vs, H1 T = none → D.nx σ' (upd H1 T (.tup vs)), rt := fun _ _ => True, bk := fun _ _ => True, ct := fun _ _ => True }) ⟨F, env, as, o, hK, E, ef, ?_⟩ |> fun z => tM_mono z fun vs H1 q => ⟨q.1, fun T hT => q.2 T vs hT⟩
  cases o with
  | nx e => exact fun σ' H' as' E' S' T vs hT => q σ' _ as' (E'.gr (Gr.new hT)) (S'.trans ((Gr.new hT).step _))
  | bk e => exact fun _ _ _ _ _ => trivial
  | ct e => exact fun _ _ _ _ _ => trivial
  | rt fr d e => exact fun _ _ _ _ _ _ => trivial
section
variable {X : Cx}
theorem ds_parU {i j : Nat} {x y : Str} {a b : Expr} {fm : FM} {px py pt pos : Pos} {kt k2 pt2} (hc : X.calm = true) (hN : X.N.Nodup) (hi : X.N[i]? = some x) (hj : X.N[j]? = some y) (hx : Loc X.env.scope x) (hy : Loc X.env.scope y) (ha : PA X [a, b] (tM X.K fm))
    (hw : swappedStores [.Tuple [.Name x px, .Name y py] kt pt] (.Tuple [a, b] k2 pt2) X.env = pure none := by rfl) (hs : swapsWithSole [.Tuple [.Name x px, .Name y py] kt pt] (.Tuple [a, b] k2 pt2) pos.line X.env = pure false := by rfl)
    (fx : X.fn x = true ∨ X.env.scope.names.lookup x = some .local := by first | exact .inl rfl | exact .inr rfl) (fy : X.fn y = true ∨ X.env.scope.names.lookup y = some .local := by first | exact .inl rfl | exact .inr rfl) :
    PS X (.Assign [.Tuple [.Name x px, .Name y py] kt pt] (.Tuple [a, b] k2 pt2) pos) (tS X.K (fPar [i, j] fm)) := by
  refine PS.weak (ps_asg (pe_tup ha) (pg_tup hc (pgs_cons (pg_name hN hi hx fx) (pgs_cons (pg_name hN hj hy fy) pgs_nil))) hs hw) fun D σ H h => tM_mono (sParT_of h) fun vs H1 q => ?_
  obtain ⟨hl, q⟩ := q
  match vs, hl with
  | [v, w], _ => exact ⟨by rw [sizeLine_eq]; exact (by decide : (2 : Nat) ≤ 16777216), fun p hp => ⟨p, [v, w], rfl, SqT.of upd_same, rfl, v, [w], rfl, w, [], rfl, rfl, q p hp⟩⟩
theorem ds_parU3 {i j l : Nat} {x y z : Str} {a b c : Expr} {fm : FM} {px py pz pt pos : Pos} {kt k2 pt2} (hc : X.calm = true) (hN : X.N.Nodup) (hi : X.N[i]? = some x) (hj : X.N[j]? = some y) (hl : X.N[l]? = some z) (hx : Loc X.env.scope x) (hy : Loc X.env.scope y) (hz : Loc X.env.scope z) (ha : PA X [a, b, c] (tM X.K fm))
    (hw : swappedStores [.Tuple [.Name x px, .Name y py, .Name z pz] kt pt] (.Tuple [a, b, c] k2 pt2) X.env = pure none := by rfl) (hs : swapsWithSole [.Tuple [.Name x px, .Name y py, .Name z pz] kt pt] (.Tuple [a, b, c] k2 pt2) pos.line X.env = pure false := by rfl)
    (fx : X.fn x = true ∨ X.env.scope.names.lookup x = some .local := by first | exact .inl rfl | exact .inr rfl) (fy : X.fn y = true ∨ X.env.scope.names.lookup y = some .local := by first | exact .inl rfl | exact .inr rfl) (fz : X.fn z = true ∨ X.env.scope.names.lookup z = some .local := by first | exact .inl rfl | exact .inr rfl) :
    PS X (.Assign [.Tuple [.Name x px, .Name y py, .Name z pz] kt pt] (.Tuple [a, b, c] k2 pt2) pos) (tS X.K (fPar [i, j, l] fm)) := by
  refine PS.weak (ps_asg (pe_tup ha) (pg_tup hc (pgs_cons (pg_name hN hi hx fx) (pgs_cons (pg_name hN hj hy fy) (pgs_cons (pg_name hN hl hz fz) pgs_nil)))) hs hw) fun D σ H h => tM_mono (sParT_of h) fun vs H1 q => ?_
  obtain ⟨hl, q⟩ := q
  match vs, hl with
  | [v, w, u], _ => exact ⟨by rw [sizeLine_eq]; exact (by decide : (3 : Nat) ≤ 16777216), fun p hp => ⟨p, [v, w, u], rfl, SqT.of upd_same, rfl, v, [w, u], rfl, w, [u], rfl, u, [], rfl, rfl, q p hp⟩⟩
end

/-! ### the law's end -/
/-- the script: an object of the written part, or a list known to the object -/
structure Enter (P : Program) (w : World) (K : PySem.W.Frag) (mg : Str → Option Value) (s : Shared) (a : Addr) (ns : List Int) (base : Heap) (H : Hp) : Prop where
  kb : K.In base
  nsm : base.Ns mainGlobals mg
  e0 : Env0 P w K mg base callerA [] s H
  only : Only H
  seq : SqL K H a (ns.map V.int)
theorem enter_at {P : Program} {w : World} {K : PySem.W.Frag} {mg mb : Str → Option Value} {a : Addr} {s : Shared} {vs : List Value} {ns : List Int} {H : Hp} (KX : K.In s.heap) (hns : s.heap.Ns mainGlobals mg) (hb : s.heap.Ns builtinsNs mb) (hbb : ∀ x : Str, x ≠ "__name__" → mb x = bootBuiltins x) (hlim : s.heap.NoLimit) (hg : s.gens = #[])
    (ha : s.heap.get? a = some { cls := .type "list", data := .seq vs.toArray }) (ok : HOk P w H s.heap) (only : Only H) (seq : SqL K H a (ns.map V.int)) (hA : ∀ b u, H b = some u → b = a ∧ K.lookup a = none) : ∃ base, Enter P w K mg s a ns base H := by
  have free : ∀ {b : Addr}, (H b ≠ none → False) → H b = none := fun {b} h => by
    cases q : H b with
    | none => rfl
    | some u => exact (h (by rw [q]; exact fun z => nomatch z)).elim
  have nsX : ∀ {b : Addr} {m : Str → Option Value}, s.heap.Ns b m → (hidT s.heap H).Ns b m := fun {b m} h => by
    obtain ⟨o, es, ep, e, d, r⟩ := h
    refine ⟨o, es, ep, hidT_get e (free fun q => ?_), d, r⟩
    cases z : H b with
    | none => exact q z
    | some u =>
      obtain ⟨rfl, _⟩ := hA b u z
      rw [ha] at e
      cases e
      cases (show Data.seq vs.toArray _ = Data.dict es ep from d)
  have kX : K.In (hidT s.heap H) := fun b o e => hidT_get (KX b o e) (free fun q => by
    cases z : H b with
    | none => exact q z
    | some u =>
      obtain ⟨rfl, n⟩ := hA b u z
      rw [n] at e
      cases e)
  refine ⟨hidT s.heap H, kX, nsX hns, ⟨rfl, ⟨kX, nsX hns, ⟨mb, nsX hb, hbb⟩, ?_⟩, fun b o e => of_hidT e, Nat.le_of_eq (hidT_size _ _), trivial, fun b hb => (nomatch (show b ∈ ([] : List Addr) from hb)), ok, .of_eq hg⟩, only, seq⟩
  obtain ⟨mc, h1, h2⟩ := hlim
  exact ⟨mc, nsX h1, h2⟩
theorem enter_law {P : Program} {w : World} {K : PySem.W.Frag} {mg mb : Str → Option Value} {a : Addr} {s : Shared} {vs : List Value} {ns : List Int} (KX : K.In s.heap) (hns : s.heap.Ns mainGlobals mg) (hb : s.heap.Ns builtinsNs mb) (hbb : ∀ x : Str, x ≠ "__name__" → mb x = bootBuiltins x) (hlim : s.heap.NoLimit) (hg : s.gens = #[])
    (ha : s.heap.get? a = some { cls := .type "list", data := .seq vs.toArray }) (hi : IntsAre vs ns) (hl : ns.length ≤ sizeLine) : ∃ base H, Enter P w K mg s a ns base H := by
  have rv := vals_ints hi
  cases hk : K.lookup a with
  | some o =>
    have e := KX a o hk
    rw [ha] at e
    cases e
    obtain ⟨base, h⟩ := enter_at (P := P) (w := w) (H := fun _ => none) KX hns hb hbb hlim hg ha (fun b u z => nomatch z) (fun b => .inl rfl) (.inr ⟨_, vs.toArray, _, hk, rfl, rfl, rfl, by rw [List.size_toArray, hi.length]; exact hl, by simpa using rv⟩) fun b u z => nomatch z
    exact ⟨base, _, h⟩
  | none =>
    have at' : ∀ b u, upd (fun _ => none) a (.frz { cls := .type "list", data := .seq vs.toArray } (.lst (ns.map V.int))) b = some u → b = a ∧ u = .frz { cls := .type "list", data := .seq vs.toArray } (.lst (ns.map V.int)) := fun b u z => by
      by_cases e : b = a
      · subst e
        rw [upd_same] at z
        exact ⟨rfl, (Option.some.inj z).symm⟩
      · rw [upd_ne e] at z
        cases z
    have ok : HOk P w (upd (fun _ => none) a (.frz { cls := .type "list", data := .seq vs.toArray } (.lst (ns.map V.int)))) s.heap := fun b u z => by
      obtain ⟨rfl, rfl⟩ := at' b u z
      exact ⟨ha, by rw [List.length_map]; exact hl, vs, _, rv, ha⟩
    have only : Only (upd (fun _ => none) a (.frz { cls := .type "list", data := .seq vs.toArray } (.lst (ns.map V.int)))) := fun b => by
      cases z : upd (fun _ => none) a (.frz { cls := .type "list", data := .seq vs.toArray } (.lst (ns.map V.int))) b with
      | none => exact .inl rfl
      | some u => exact .inr ⟨_, _, congrArg some (at' b u z).2⟩
    obtain ⟨base, h⟩ := enter_at KX hns hb hbb hlim hg ha ok only (.inl (.inr ⟨_, upd_same⟩)) fun b u z => ⟨(at' b u z).1, hk⟩
    exact ⟨base, _, h⟩
/-- the law's call, from its promise by data -/
theorem call_law {P : Program} {w : World} {K : PySem.W.Frag} {mg mb : Str → Option Value} {k : Nat} {fa a : Addr} {fd : FuncData} {x : Str} {fn : Fn} {s : Shared} {vs : List Value} {ns : List Int} {fr : Bool} {outs : List D}
    (KX : K.In s.heap) (hns : s.heap.Ns mainGlobals mg) (hb : s.heap.Ns builtinsNs mb) (hbb : ∀ x : Str, x ≠ "__name__" → mb x = bootBuiltins x) (hlim : s.heap.NoLimit) (hg : s.gens = #[]) (ha : s.heap.get? a = some { cls := .type "list", data := .seq vs.toArray }) (hi : IntsAre vs ns) (hl : ns.length ≤ sizeLine) (hr : Room k callerA)
    (F : ∀ base : Heap, K.In base → base.Ns mainGlobals mg → FnG P w K mg base CX0 k fa fd [x] (spD K [false] fn)) (hbind : ∀ (s : Shared) (u : Value), BindsTo s fd ⟨[u], []⟩ [(x, u)]) (hf : fn [.frl (ns.map D.int)] = some (fr, .bl true, outs)) :
    codeAny (model P w) callerA (.call (.ref fa) ⟨[.ref a], []⟩) (fun r s' => r = .ok (.ret (.bool true)) ∧ OldK s.heap s'.heap ∧ s'.os = s.os ∧ AllBare s'.gens) s := by
  obtain ⟨base, H, En⟩ := enter_law (P := P) (w := w) (K := K) KX hns hb hbb hlim hg ha hi hl
  have hsp : spD K [false] fn [.ref a] H (fun v _ => v = .bl true) (fun _ _ _ => False) := by
    refine ⟨⟨K, fun _ => False⟩, [.frl (ns.map D.int)], [none], fr, .bl true, outs, rfl, .val (.frl ?_ (isDs_ints ns)) .nil, fun i j b h1 _ => ?_, fun b h _ => ?_, fun b h => h.elim, hf, fun v H' _ _ ro => ?_⟩
    · rcases En.seq with h | h
      · exact .inl ⟨h, fun z => z.elim (fun z => by simp at z) id⟩
      · exact .inr h
    · cases i with
      | zero => simp at h1
      | succ i => simp at h1
    · simp at h
    · cases fr with
      | false => cases ro.2; rfl
      | true => obtain ⟨b, _, _, _, nw⟩ := ro; exact (show False from nw.o).elim
  refine codeAny_mono ((F base En.kb En.nsm).go callerA [] s H ⟨[.ref a], []⟩ [.ref a] [.ref a] _ _ rfl hr En.e0 (hbind s (.ref a)) (.cons rfl .nil) hsp) fun r s' h => ?_
  cases r with
  | error e => exact (show False from h).elim
  | ok fl =>
    cases fl with
    | next => exact (show False from h).elim
    | brk => exact (show False from h).elim
    | cont => exact (show False from h).elim
    | ret u =>
      obtain ⟨v, H', os, bare, un, ok', r', q⟩ := h
      cases (show v = .bl true from q)
      obtain rfl : u = Value.bool true := r'
      refine ⟨rfl, OldK.of_keep fun b o e => ?_, os, bare⟩
      rcases En.only b with z | ⟨ob, xs, z⟩
      · exact un.keep b o e z (fun z => nomatch (show b ∈ ([] : List Addr) from z)) (fun z => nomatch z)
      · obtain ⟨e1, _⟩ := En.e0.hok b _ z
        obtain ⟨e2, _⟩ := ok' b _ (un.frzs b ob _ z)
        rw [e] at e1
        cases e1
        exact e2
theorem walk_D {l : PySem.W.OpenLaw} {n k : Nat} {q : Program} {loose : List Str} {XP : (Str → Option Value) → Heap → Prop} {YP : World → Heap → Prop} {d : DefRec} {K : Params → PySem.W.Frag} {fn : Fn} {x : Str}
    (hn : l.most = some n) (hn2 : n ≤ sizeLine) (hdf : d.params.defaults = []) (hr : Room k callerA) (hY : ∀ (w : World) (h : Heap), YP w h → (K w.params).In h)
    (F : ∀ (w : World) (mg : Str → Option Value) (fa : Addr) (h : Heap), (K w.params).In h → h.Ns mainGlobals mg → mg d.name = some (.ref fa) →
      ∃ fd : FuncData, (∀ (s : Shared) (u : Value), BindsTo s fd ⟨[u], []⟩ [(x, u)]) ∧ ∀ base : Heap, (K w.params).In base → base.Ns mainGlobals mg → FnG l.prog w (K w.params) mg base CX0 k fa fd [x] (spD (K w.params) [false] fn))
    (hf : ∀ ns : List Int, ns.length ≤ n → (∀ z ∈ ns, Builtin.Int.intBits z ≤ 1048576) → ∃ fr outs, fn [.frl (ns.map D.int)] = some (fr, .bl true, outs)) :
    PySem.W.WalkO q loose XP YP l.row.toRowW d [] (fun f vs => PySem.call f vs) := by
  refine Att.attach_callB hn hdf fun w s₀ s₁ mg mb fa o pm cd doc a vs ns G Y ho hd hcd hmg hobj hints hlen hbits hg => ?_
  have KX := hY w _ Y
  obtain ⟨fd, hb, hF⟩ := F w mg fa _ KX G.T.g hmg
  obtain ⟨fr, outs, e⟩ := hf ns hlen hbits
  exact call_law KX G.T.g G.T.b G.T.builtins G.T.nolimit hg hobj hints (Nat.le_trans hlen hn2) hr hF hb e
end DL
/-! The data layer: shorthands for printed walks. -/
namespace DL
open PySem PySem.Spec PyProof.Rows L2

theorem toF {K : PySem.W.Frag} {f : FE} {σ : Sg} {H : Hp} {Q : VK} (h : tD K f σ H Q) : tF K f σ H Q := by
  obtain ⟨F, env, as, d, env', hK, E, ef, q⟩ := h
  exact ⟨F, env, as, d, env', hK, E, ef, fun a H' as' E' S _ i => q _ H' as' E'.less S i.isD⟩
section
variable {X : Cx} {elt kx vx tg iter : Expr} {ifs : List Expr} {scope : Scope} {own : List (Str × Nat)} {pos : Pos} {fi : FI} {g : FG} {gv : List Nat} {t : FT} {f fk fv : FE} {i j : Nat} {y : Str} {py spos : Pos}
theorem ds_setLcV (hc : X.calm = true) (hN : X.N.Nodup) (hy : X.N[j]? = some y) (hyl : X.env.scope.names.lookup y = some .local)
    (hsw : swapsWith (.ListComp elt [⟨tg, iter, ifs, 0⟩] scope pos) (some (.Name y py)) spos.line X.env = pure true) (hi : PI X tg iter (tI X.K fi)) (ok : BlkOk X.N X.env.scope scope own) (hgv : ∀ i ∈ gv, i ∈ own.map (·.2))
    (hg : ∀ s H C cl fp, PG (Bx X scope s H C cl fp) tg (tG X.K g gv)) (ht : ∀ s H C cl fp, PTs (Bx X scope s H C cl fp) ifs (tT X.K t)) (he : ∀ s H C cl fp, PE (Bx X scope s H C cl fp) elt (tD X.K f))
    (hs : ∀ x, foldedSetIterable iter X.env x = pure x := by intro _; rfl) : PS X (.Assign [.Name y py] (.ListComp elt [⟨tg, iter, ifs, 0⟩] scope pos) spos) (tS X.K (fSet j (fComp fi g t f (own.map (·.2))))) :=
  PS.weak (ps_setLc hc hN hy hyl hsw hi ok hg ht he hs) fun _ _ _ h => sSet_of (fun _ _ _ z => lc_of hgv (toF z)) h
theorem ds_setLcVL (hfi : ∀ env o, fi env = some o → isDat i env) (hc : X.calm = true) (hN : X.N.Nodup) (hy : X.N[j]? = some y) (hyl : X.env.scope.names.lookup y = some .local)
    (hsw : swapsWith (.ListComp elt [⟨tg, iter, ifs, 0⟩] scope pos) (some (.Name y py)) spos.line X.env = pure true) (hi : PI X tg iter (tIl X.K fi i)) (ok : BlkOk X.N X.env.scope scope own) (hgv : ∀ i ∈ gv, i ∈ own.map (·.2))
    (hg : ∀ s H C cl fp, PG (Bx X scope s H C cl fp) tg (tG X.K g gv)) (ht : ∀ s H C cl fp, PTs (Bx X scope s H C cl fp) ifs (tT X.K t)) (he : ∀ s H C cl fp, PE (Bx X scope s H C cl fp) elt (tD X.K f))
    (hs : ∀ x, foldedSetIterable iter X.env x = pure x := by intro _; rfl) : PS X (.Assign [.Name y py] (.ListComp elt [⟨tg, iter, ifs, 0⟩] scope pos) spos) (tS X.K (fSet j (fComp fi g t f (own.map (·.2))))) :=
  ds_lock (i := i) (PS.weak (ps_setLc hc hN hy hyl hsw hi ok hg ht he hs) fun _ _ _ h => ⟨h.1, sSet_of (fun _ _ _ z => lc_of hgv (toF z)) h.2⟩) fun env o h => by
    unfold fSet at h
    cases r : fComp fi g t f (own.map (·.2)) env with
    | none => rw [r] at h; cases h
    | some p => obtain ⟨q, e⟩ := fComp_fi r; exact hfi env q e
theorem ds_setDcV (tk : Bool) (hu : X.A.units + 64 < cLine) (hc : X.calm = true) (hN : X.N.Nodup) (hy : X.N[j]? = some y) (hyl : X.env.scope.names.lookup y = some .local)
    (hsw : swapsWith (.DictComp kx vx [⟨tg, iter, ifs, 0⟩] scope pos) (some (.Name y py)) spos.line X.env = pure true) (hi : PI X tg iter (tI X.K fi)) (ok : BlkOk X.N X.env.scope scope own) (hgv : ∀ i ∈ gv, i ∈ own.map (·.2))
    (hg : ∀ s H C cl fp, PG (Bx X scope s H C cl fp) tg (tG X.K g gv)) (ht : ∀ s H C cl fp, PTs (Bx X scope s H C cl fp) ifs (tT X.K t)) (hk : ∀ s H C cl fp, PE (Bx X scope s H C cl fp) kx (tD X.K fk)) (he : ∀ s H C cl fp, PE (Bx X scope s H C cl fp) vx (tD X.K fv))
    (hs : ∀ x, foldedSetIterable iter X.env x = pure x := by intro _; rfl) : PS X (.Assign [.Name y py] (.DictComp kx vx [⟨tg, iter, ifs, 0⟩] scope pos) spos) (tS X.K (fSet j (fCompQ tk fi g t fk fv (own.map (·.2))))) :=
  PS.weak (ps_setDcomp (hE_or tk) hu hc hN hy hyl hsw hi ok hg ht hk he hs) fun _ _ _ h => sSet_of (fun _ _ _ z => dc_of hgv (toF z)) h
theorem ds_setDcVL (tk : Bool) (hfi : ∀ env o, fi env = some o → isDat i env) (hu : X.A.units + 64 < cLine) (hc : X.calm = true) (hN : X.N.Nodup) (hy : X.N[j]? = some y) (hyl : X.env.scope.names.lookup y = some .local)
    (hsw : swapsWith (.DictComp kx vx [⟨tg, iter, ifs, 0⟩] scope pos) (some (.Name y py)) spos.line X.env = pure true) (hi : PI X tg iter (tIl X.K fi i)) (ok : BlkOk X.N X.env.scope scope own) (hgv : ∀ i ∈ gv, i ∈ own.map (·.2))
    (hg : ∀ s H C cl fp, PG (Bx X scope s H C cl fp) tg (tG X.K g gv)) (ht : ∀ s H C cl fp, PTs (Bx X scope s H C cl fp) ifs (tT X.K t)) (hk : ∀ s H C cl fp, PE (Bx X scope s H C cl fp) kx (tD X.K fk)) (he : ∀ s H C cl fp, PE (Bx X scope s H C cl fp) vx (tD X.K fv))
    (hs : ∀ x, foldedSetIterable iter X.env x = pure x := by intro _; rfl) : PS X (.Assign [.Name y py] (.DictComp kx vx [⟨tg, iter, ifs, 0⟩] scope pos) spos) (tS X.K (fSet j (fCompQ tk fi g t fk fv (own.map (·.2))))) :=
  ds_lock (i := i) (PS.weak (ps_setDcomp (hE_or tk) hu hc hN hy hyl hsw hi ok hg ht hk he hs) fun _ _ _ h => ⟨h.1, sSet_of (fun _ _ _ z => dc_of hgv (toF z)) h.2⟩) fun env o h => by
    unfold fSet at h
    cases r : fCompQ tk fi g t fk fv (own.map (·.2)) env with
    | none => rw [r] at h; cases h
    | some p => obtain ⟨q, e⟩ := fCompQ_fi r; exact hfi env q e
end
theorem u1 {k : Nat} {A : Around} (r : Room k A) : A.units + 1 < cLine := by have := r.un; omega
theorem u64 {k : Nat} {A : Around} (r : Room k A) : A.units + 64 < cLine := by have := r.un; omega
theorem u65 {k : Nat} {A : Around} (r : Room k A) : A.units + 65 < cLine := by have := r.un; omega
theorem u66 {k : Nat} {A : Around} (r : Room k A) : A.units + 66 < cLine := by have := r.un; omega
theorem b_len : bootBuiltins "len" = some (.builtin "len") := by decide +kernel
theorem b_abs : bootBuiltins "abs" = some (.builtin "abs") := by decide +kernel
theorem b_sum : bootBuiltins "sum" = some (.builtin "sum") := by decide +kernel
theorem b_any : bootBuiltins "any" = some (.builtin "any") := by decide +kernel
theorem b_all : bootBuiltins "all" = some (.builtin "all") := by decide +kernel
theorem b_max : bootBuiltins "max" = some (.builtin "max") := by decide +kernel
theorem b_min : bootBuiltins "min" = some (.builtin "min") := by decide +kernel
theorem b_sorted : bootBuiltins "sorted" = some (.builtin "sorted") := by decide +kernel
theorem b_repr : bootBuiltins "repr" = some (.builtin "repr") := by decide +kernel
theorem b_int : bootBuiltins "int" = some (.type "int") := by decide +kernel
theorem b_bool : bootBuiltins "bool" = some (.type "bool") := by decide +kernel
theorem b_str : bootBuiltins "str" = some (.type "str") := by decide +kernel
theorem b_tuple : bootBuiltins "tuple" = some (.type "tuple") := by decide +kernel
theorem b_list : bootBuiltins "list" = some (.type "list") := by decide +kernel
theorem b_dict : bootBuiltins "dict" = some (.type "dict") := by decide +kernel
/-- a def of the module, with its promise by data -/
structure Has (P : Program) (w : World) (K : PySem.W.Frag) (mg : Str → Option Value) (base : Heap) (k : Nat) (x : Str) (ps : List Str) (ms : List Bool) (fn : Fn) (f : Addr) (fd : FuncData) : Prop where
  go : FnG P w K mg base CX0 k f fd ps (spD K ms fn)
  b : Binds K fd ps []
  m : mg x = some (.ref f)
  kp : PySem.W.keepIn K (.ref f) = true
theorem runD_len {ms : List Bool} {n : Nat} {f : FS} : ∀ ds t, runD ms n f ds = some t → ds.length = ms.length := fun ds t h => by
  unfold runD at h
  split at h
  · assumption
  · cases h
theorem de_globI {X : Cx} {x : Str} {i : Int} {pos : Pos} (hg : Gl X x) (hm : ∃ t, X.mg x = some (.int i t)) (hd : (x == ("__debug__" : Str)) = false := by decide) : PE X (.Name x pos) (tD X.K (fC (.int i))) := by
  obtain ⟨t, hm⟩ := hm
  exact de_glob (v := .int i) hg hm ⟨t, rfl⟩ (fun _ _ => .int i) hd
end DL
namespace Law
open PySem PySem.Spec PyProof.Rows L2 DL
def topS (i : Nat) : Stmt := PySem.Challenge.pw_nothingfalls_k07_whole_slips_up_to_five.main.body.getD i (.Pass ⟨0, 0, 0, 0⟩)
section
variable {P : Program} {w : World} {K : PySem.W.Frag} {mg : Str → Option Value} {base : Heap}
abbrev s_is_tuple : Stmt := topS 1
theorem sc_is_tuple : FnScope ["value", "least", "most"] ["value", "least", "most"] (defScope s_is_tuple) := ⟨rfl, rfl, rfl, by decide +kernel, rfl, by decide +kernel, by decide +kernel⟩
def f_is_tuple  : FS := (fRet (feAnd (fIsi "tuple" (fLv 0)) (fChain gLe gLe (fVar 1) (fB gLen (flCons (fLv 0) flNil)) (fVar 2))))
theorem w_is_tuple {fa : Addr} {fd : FuncData} (F : Fun K "is_tuple" "is_tuple" s_is_tuple fa fd) (m_isinstance : mg "isinstance" = none) (m_len : mg "len" = none) (m_tuple : mg "tuple" = none) : FnG P w K mg base CX0 1 fa fd ["value", "least", "most"] (spD K [false, false, false] (runD [false, false, false] 0 (f_is_tuple))) := by
  refine okD F sc_is_tuple rfl rfl fun cdv A out s H E hg hr => ?_
  exact (dss_one (ds_ret (de_and (de_isi (T := "tuple") (by decide) (by rfl) m_isinstance (by rfl) m_tuple b_tuple (dl_var 0)) (de_one (de_chain op_le op_le g_cmp g_cmp (de_var 1) (de_callB call_len g_len (by rfl) m_len b_len (dls_cons (dl_var 0) dls_nil)) (de_var 2))))))
def N_is_tuple : Fn := runD [false, false, false] 0 (f_is_tuple)
abbrev s_is_whole : Stmt := topS 2
theorem sc_is_whole : FnScope ["value"] ["value"] (defScope s_is_whole) := ⟨rfl, rfl, rfl, by decide +kernel, rfl, by decide +kernel, by decide +kernel⟩
def f_is_whole  : FS := (fRet (feAnd (fIsi "int" (fLv 0)) (feNot (fIsi "bool" (fLv 0)))))
theorem w_is_whole {fa : Addr} {fd : FuncData} (F : Fun K "is_whole" "is_whole" s_is_whole fa fd) (m_bool : mg "bool" = none) (m_int : mg "int" = none) (m_isinstance : mg "isinstance" = none) : FnG P w K mg base CX0 1 fa fd ["value"] (spD K [false] (runD [false] 0 (f_is_whole))) := by
  refine okD F sc_is_whole rfl rfl fun cdv A out s H E hg hr => ?_
  exact (dss_one (ds_ret (de_and (de_isi (T := "int") (by decide) (by rfl) m_isinstance (by rfl) m_int b_int (dl_var 0)) (de_one (de_not (de_isi (T := "bool") (by decide) (by rfl) m_isinstance (by rfl) m_bool b_bool (dl_var 0)))))))
def N_is_whole : Fn := runD [false] 0 (f_is_whole)
abbrev s_is_integer : Stmt := topS 3
theorem sc_is_integer : FnScope ["value", "low", "high"] ["value", "low", "high"] (defScope s_is_integer) := ⟨rfl, rfl, rfl, by decide +kernel, rfl, by decide +kernel, by decide +kernel⟩
def f_is_integer (n_is_whole : Fn) : FS := (fRet (feAnd (fCall [false] n_is_whole (flCons (fLv 0) flNil)) (fChain gLe gLe (fVar 1) (fVar 0) (fVar 2))))
theorem w_is_integer {fa : Addr} {fd : FuncData} (F : Fun K "is_integer" "is_integer" s_is_integer fa fd) {a_is_whole : Addr} {d_is_whole : FuncData} {n_is_whole : Fn} (h_is_whole : Has P w K mg base 1 "is_whole" ["value"] [false] n_is_whole a_is_whole d_is_whole) : FnG P w K mg base CX0 2 fa fd ["value", "low", "high"] (spD K [false, false, false] (runD [false, false, false] 0 (f_is_integer n_is_whole))) := by
  refine okD F sc_is_integer rfl rfl fun cdv A out s H E hg hr => ?_
  exact (dss_one (ds_ret (de_and (de_call (h_is_whole.go.mono (by decide)) hg hr (by rfl) h_is_whole.m h_is_whole.kp h_is_whole.b (dls_cons (dl_var 0) dls_nil)) (de_one (de_chain op_le op_le g_cmp g_cmp (de_var 1) (de_var 0) (de_var 2))))))
def N_is_integer : Fn := runD [false, false, false] 0 (f_is_integer N_is_whole)
abbrev s_is_rising : Stmt := topS 4
theorem sc_is_rising : FnScope ["values", "one", "other"] ["values"] (defScope s_is_rising) := ⟨rfl, rfl, rfl, by decide +kernel, rfl, by decide +kernel, by decide +kernel⟩
def f_is_rising  : FS := (fRet (fB gAll (flCons (fLd (fComp (fiZip (faCons (fVar 0) (faCons (fSl (fLv 0) (foSome (fC (.int 1))) foNone) faNil))) (fgTup (fgCons (setE 1) (fgCons (setE 2) fgNil)) 2) fYes (fOp2 gLt (fLv 1) (fLv 2)) [1, 2])) flNil)))
theorem w_is_rising {fa : Addr} {fd : FuncData} (F : Fun K "is_rising" "is_rising" s_is_rising fa fd) (m_all : mg "all" = none) (m_zip : mg "zip" = none) : FnG P w K mg base CX0 1 fa fd ["values"] (spD K [false] (runD [false] 2 (f_is_rising))) := by
  refine okD F sc_is_rising rfl rfl fun cdv A out s H E hg hr => ?_
  exact (dss_one (ds_ret (de_callB (cr_all rfl) g_all (by rfl) m_all b_all (dls_cons (dl_of (PE.ofF (df_comp rfl sc_is_rising.nd (di_zip (by rfl) m_zip (da_cons (de_var 0) (da_cons (de_slice (dl_var 0) (dpo_some de_int) dpo_none) da_nil))) (blkOk_by (own := [("one", 1), ("other", 2)]) (by kernel_rfl)) (by decide) (fun _ _ _ _ _ => (dg_tup rfl (dgs_cons (dg_name (i := 1) sc_is_rising.nd rfl (by first | exact .inl rfl | exact .inr rfl)) (dgs_cons (dg_name (i := 2) sc_is_rising.nd rfl (by first | exact .inl rfl | exact .inr rfl)) dgs_nil)))) (fun _ _ _ _ _ => dts_nil) (fun _ _ _ _ _ => (de_cmp op_lt g_cmp (dl_var 1) (dl_var 2) (nomark _)))))) dls_nil))))
def N_is_rising : Fn := runD [false] 2 (f_is_rising)
abbrev s_is_state_of : Stmt := topS 13
theorem sc_is_state_of : FnScope ["value", "beat"] ["value"] (defScope s_is_state_of) := ⟨rfl, rfl, rfl, by decide +kernel, rfl, by decide +kernel, by decide +kernel⟩
def f_is_state_of (n_is_integer : Fn) (n_is_rising : Fn) : FS := (fSeq (fIf (ftOr (ftNot (fTest (fIsi "tuple" (fLv 0)))) (ftNot (fTest (fB gAll (flCons (fLd (fComp (fiSeq (fVar 0)) (setE 1) fYes (fCall [false, false, false] n_is_integer (flCons (fLv 1) (flCons (fLd (fC (.int 0))) (flCons (fLd (fOp2 gSub (fLd (fC (.int 15))) (fLd (fC (.int 1))))) flNil)))) [1])) flNil)))))
    (fRet (fC (.bl false)))
    fSkip)
    (fRet (fCall [false] n_is_rising (flCons (fLv 0) flNil))))
theorem w_is_state_of {fa : Addr} {fd : FuncData} (F : Fun K "is_state_of" "is_state_of" s_is_state_of fa fd) {a_is_integer : Addr} {d_is_integer : FuncData} {n_is_integer : Fn} (h_is_integer : Has P w K mg base 2 "is_integer" ["value", "low", "high"] [false, false, false] n_is_integer a_is_integer d_is_integer) {a_is_rising : Addr} {d_is_rising : FuncData} {n_is_rising : Fn} (h_is_rising : Has P w K mg base 1 "is_rising" ["values"] [false] n_is_rising a_is_rising d_is_rising) (m_all : mg "all" = none) (m_isinstance : mg "isinstance" = none) (m_tuple : mg "tuple" = none) (c_MOST_HEIGHT : ∃ t, mg "MOST_HEIGHT" = some (.int 15 t)) : FnG P w K mg base CX0 3 fa fd ["value"] (spD K [false] (runD [false] 1 (f_is_state_of n_is_integer n_is_rising))) := by
  refine okD F sc_is_state_of rfl rfl fun cdv A out s H E hg hr => ?_
  exact (dss_cons (ds_if (PW.pt (dw_or (dt_not (dt_val (de_isi (T := "tuple") (by decide) (by rfl) m_isinstance (by rfl) m_tuple b_tuple (dl_var 0)))) (dw_or1 (dt_not (dt_val (de_callB (cr_all rfl) g_all (by rfl) m_all b_all (dls_cons (dl_of (PE.ofF (df_comp rfl sc_is_state_of.nd (di_seq (de_var 0)) (blkOk_by (own := [("beat", 1)]) (by kernel_rfl)) (by decide) (fun _ _ _ _ _ => (dg_name (i := 1) sc_is_state_of.nd rfl (by first | exact .inl rfl | exact .inr rfl))) (fun _ _ _ _ _ => dts_nil) (fun _ _ _ _ _ => (de_call (h_is_integer.go.mono (by decide)) hg hr (by rfl) h_is_integer.m h_is_integer.kp h_is_integer.b (dls_cons (dl_var 1) (dls_cons (dl_of de_int) (dls_cons (dl_of (de_bin op_sub g_sub (dl_of (de_globI (by rfl) c_MOST_HEIGHT)) (dl_of de_int))) dls_nil)))))))) dls_nil)))))))
    (dss_one (ds_ret de_bl))
    dss_nil)
    (dss_one (ds_ret (de_call (h_is_rising.go.mono (by decide)) hg hr (by rfl) h_is_rising.m h_is_rising.kp h_is_rising.b (dls_cons (dl_var 0) dls_nil)))))
def N_is_state_of : Fn := runD [false] 1 (f_is_state_of N_is_integer N_is_rising)
abbrev s_is_state : Stmt := topS 14
theorem sc_is_state : FnScope ["value"] ["value"] (defScope s_is_state) := ⟨rfl, rfl, rfl, by decide +kernel, rfl, by decide +kernel, by decide +kernel⟩
def f_is_state (n_is_state_of : Fn) : FS := (fRet (feAnd (fCall [false] n_is_state_of (flCons (fLv 0) flNil)) (fOp2 gLe (fLd (fB gLen (flCons (fLv 0) flNil))) (fLd (fC (.int 8))))))
theorem w_is_state {fa : Addr} {fd : FuncData} (F : Fun K "is_state" "is_state" s_is_state fa fd) {a_is_state_of : Addr} {d_is_state_of : FuncData} {n_is_state_of : Fn} (h_is_state_of : Has P w K mg base 3 "is_state_of" ["value"] [false] n_is_state_of a_is_state_of d_is_state_of) (m_len : mg "len" = none) (c_MOST_BALLS : ∃ t, mg "MOST_BALLS" = some (.int 8 t)) : FnG P w K mg base CX0 4 fa fd ["value"] (spD K [false] (runD [false] 0 (f_is_state n_is_state_of))) := by
  refine okD F sc_is_state rfl rfl fun cdv A out s H E hg hr => ?_
  exact (dss_one (ds_ret (de_and (de_call (h_is_state_of.go.mono (by decide)) hg hr (by rfl) h_is_state_of.m h_is_state_of.kp h_is_state_of.b (dls_cons (dl_var 0) dls_nil)) (de_one (de_cmp op_le g_cmp (dl_of (de_callB call_len g_len (by rfl) m_len b_len (dls_cons (dl_var 0) dls_nil))) (dl_of (de_globI (by rfl) c_MOST_BALLS)) (nomark _))))))
def N_is_state : Fn := runD [false] 0 (f_is_state N_is_state_of)
abbrev s_check_state : Stmt := topS 15
theorem sc_check_state : FnScope ["value"] ["value"] (defScope s_check_state) := ⟨rfl, rfl, rfl, by decide +kernel, rfl, by decide +kernel, by decide +kernel⟩
def f_check_state (n_is_state : Fn) : FS := (fIf (ftNot (fTest (fCall [false] n_is_state (flCons (fLv 0) flNil))))
    fNever
    fSkip)
theorem w_check_state {fa : Addr} {fd : FuncData} (F : Fun K "check_state" "check_state" s_check_state fa fd) {a_is_state : Addr} {d_is_state : FuncData} {n_is_state : Fn} (h_is_state : Has P w K mg base 4 "is_state" ["value"] [false] n_is_state a_is_state d_is_state) : FnG P w K mg base CX0 5 fa fd ["value"] (spD K [false] (runD [false] 0 (f_check_state n_is_state))) := by
  refine okD F sc_check_state rfl rfl fun cdv A out s H E hg hr => ?_
  exact (dss_one (ds_if (dt_not (dt_val (de_call (h_is_state.go.mono (by decide)) hg hr (by rfl) h_is_state.m h_is_state.kp h_is_state.b (dls_cons (dl_var 0) dls_nil))))
    (dss_one ds_never)
    dss_nil))
def N_check_state : Fn := runD [false] 0 (f_check_state N_is_state)
abbrev s_check_most : Stmt := topS 16
theorem sc_check_most : FnScope ["value"] ["value"] (defScope s_check_most) := ⟨rfl, rfl, rfl, by decide +kernel, rfl, by decide +kernel, by decide +kernel⟩
def f_check_most (n_is_integer : Fn) : FS := (fIf (ftNot (fTest (fCall [false, false, false] n_is_integer (flCons (fLv 0) (flCons (fLd (fC (.int 1))) (flCons (fLd (fC (.int 15))) flNil))))))
    fNever
    fSkip)
theorem w_check_most {fa : Addr} {fd : FuncData} (F : Fun K "check_most" "check_most" s_check_most fa fd) {a_is_integer : Addr} {d_is_integer : FuncData} {n_is_integer : Fn} (h_is_integer : Has P w K mg base 2 "is_integer" ["value", "low", "high"] [false, false, false] n_is_integer a_is_integer d_is_integer) (c_MOST_HEIGHT : ∃ t, mg "MOST_HEIGHT" = some (.int 15 t)) : FnG P w K mg base CX0 3 fa fd ["value"] (spD K [false] (runD [false] 0 (f_check_most n_is_integer))) := by
  refine okD F sc_check_most rfl rfl fun cdv A out s H E hg hr => ?_
  exact (dss_one (ds_if (dt_not (dt_val (de_call (h_is_integer.go.mono (by decide)) hg hr (by rfl) h_is_integer.m h_is_integer.kp h_is_integer.b (dls_cons (dl_var 0) (dls_cons (dl_of de_int) (dls_cons (dl_of (de_globI (by rfl) c_MOST_HEIGHT)) dls_nil))))))
    (dss_one ds_never)
    dss_nil))
def N_check_most : Fn := runD [false] 0 (f_check_most N_is_integer)
abbrev s_check_fitting : Stmt := topS 17
theorem sc_check_fitting : FnScope ["state", "most"] ["state", "most"] (defScope s_check_fitting) := ⟨rfl, rfl, rfl, by decide +kernel, rfl, by decide +kernel, by decide +kernel⟩
def f_check_fitting (n_check_most : Fn) (n_check_state : Fn) : FS := (fSeq (fDrop (fCall [false] n_check_state (flCons (fLv 0) flNil)))
    (fSeq (fDrop (fCall [false] n_check_most (flCons (fLv 1) flNil)))
    (fIf (ftAnd (fTest (fOp2 gNe (fLv 0) (fLd (fTup faNil)))) (fTest (fOp2 gGe (fLd (fOp2 gIx (fLv 0) (fLd (fNeg (fC (.int 1)))))) (fLv 1))))
    fNever
    fSkip)))
theorem w_check_fitting {fa : Addr} {fd : FuncData} (F : Fun K "check_fitting" "check_fitting" s_check_fitting fa fd) {a_check_most : Addr} {d_check_most : FuncData} {n_check_most : Fn} (h_check_most : Has P w K mg base 3 "check_most" ["value"] [false] n_check_most a_check_most d_check_most) {a_check_state : Addr} {d_check_state : FuncData} {n_check_state : Fn} (h_check_state : Has P w K mg base 5 "check_state" ["value"] [false] n_check_state a_check_state d_check_state) : FnG P w K mg base CX0 6 fa fd ["state", "most"] (spD K [false, false] (runD [false, false] 0 (f_check_fitting n_check_most n_check_state))) := by
  refine okD F sc_check_fitting rfl rfl fun cdv A out s H E hg hr => ?_
  exact (dss_cons (ds_expr (de_call (h_check_state.go.mono (by decide)) hg hr (by rfl) h_check_state.m h_check_state.kp h_check_state.b (dls_cons (dl_var 0) dls_nil)))
    (dss_cons (ds_expr (de_call (h_check_most.go.mono (by decide)) hg hr (by rfl) h_check_most.m h_check_most.kp h_check_most.b (dls_cons (dl_var 1) dls_nil)))
    (dss_one (ds_if (PW.pt (dw_and (dt_cmp (op_neA (u64 hr)) g_ne (dl_var 0) (dl_of (de_tup da_nil)) (nomark _)) (dw_and1 (dt_cmp op_ge g_cmp (dl_of (de_ix (ix_A (u1 hr)) g_ix (dl_var 0) (dl_of (de_neg de_int)) (fun _ _ => rfl))) (dl_var 1) (nomark _)))))
    (dss_one ds_never)
    dss_nil))))
def N_check_fitting : Fn := runD [false, false] 0 (f_check_fitting N_check_most N_check_state)
abbrev s_behind_of : Stmt := topS 18
theorem sc_behind_of : FnScope ["state", "height", "rest", "beat"] ["state", "height"] (defScope s_behind_of) := ⟨rfl, rfl, rfl, by decide +kernel, rfl, by decide +kernel, by decide +kernel⟩
def f_behind_of  : FS := (fSeq (fSet 2 (fComp (fiSeq (fVar 0)) (setE 3) (fTest (fOp2 gGt (fLv 3) (fLd (fC (.int 0))))) (fOp2 gSub (fLv 3) (fLd (fC (.int 1)))) [3]))
    (fSeq (fIf (fTest (fOp2 gNotIn (fLd (fC (.int 0))) (fLv 0)))
    (fRet (feIf (fTest (fOp2 gEq (fLv 1) (fLd (fC (.int 0))))) (fB gTuple (flCons (fLv 2) flNil)) (fC .non)))
    fSkip)
    (fSeq (fIf (ftOr (fTest (fOp2 gEq (fLv 1) (fLd (fC (.int 0))))) (fTest (fOp2 gIn (fLd (fOp2 gSub (fLv 1) (fLd (fC (.int 1))))) (fLv 2))))
    (fRet (fC .non))
    fSkip)
    (fRet (fB gTuple (flCons (fLd (fB gSorted (flCons (fLd (fLst (faStar (fLv 2) (faCons (fOp2 gSub (fLv 1) (fLd (fC (.int 1)))) faNil)))) flNil))) flNil))))))
theorem w_behind_of {fa : Addr} {fd : FuncData} (F : Fun K "behind_of" "behind_of" s_behind_of fa fd) (m_sorted : mg "sorted" = none) (m_tuple : mg "tuple" = none) : FnG P w K mg base CX0 1 fa fd ["state", "height"] (spD K [false, false] (runD [false, false] 2 (f_behind_of))) := by
  refine okD F sc_behind_of rfl rfl fun cdv A out s H E hg hr => ?_
  exact (dss_cons (ds_setLcV rfl sc_behind_of.nd rfl rfl (by rfl) (di_seq (de_var 0)) (blkOk_by (own := [("beat", 3)]) (by kernel_rfl)) (by decide) (fun _ _ _ _ _ => (dg_name (i := 3) sc_behind_of.nd rfl (by first | exact .inl rfl | exact .inr rfl))) (fun _ _ _ _ _ => (dts_one (dt_cmp op_gt g_cmp (dl_var 3) (dl_of de_int) (nomark _)))) (fun _ _ _ _ _ => (de_bin op_sub g_sub (dl_var 3) (dl_of de_int))))
    (dss_cons (ds_if (dt_cmp (op_notInA (u65 hr)) g_notIn (dl_of de_int) (dl_var 0) (by with_unfolding_all rfl))
    (dss_one (ds_ret (de_if (dt_cmp (op_eqA (u64 hr)) g_eq (dl_var 1) (dl_of de_int) (nomark _)) (de_callT call_tuple_of g_tuple (by rfl) m_tuple b_tuple (dls_cons (dl_var 2) dls_nil)) de_non)))
    dss_nil)
    (dss_cons (ds_if (PW.pt (dw_or (dt_cmp (op_eqA (u64 hr)) g_eq (dl_var 1) (dl_of de_int) (nomark _)) (dw_or1 (dt_cmp (op_inA (u65 hr)) g_in (dl_of (de_bin op_sub g_sub (dl_var 1) (dl_of de_int))) (dl_var 2) (by with_unfolding_all rfl)))))
    (dss_one (ds_ret de_non))
    dss_nil)
    (dss_one (ds_ret (de_callT call_tuple_of g_tuple (by rfl) m_tuple b_tuple (dls_cons (dl_of (PE.ofF (df_callB call_sortedA g_sorted (by rfl) m_sorted b_sorted (dls_cons (dl_of (PE.ofF (df_lst (da_star (dl_var 2) (da_cons (de_bin op_sub g_sub (dl_var 1) (dl_of de_int)) da_nil))))) dls_nil)))) dls_nil)))))))
def N_behind_of : Fn := runD [false, false] 2 (f_behind_of)
abbrev s_throws_of : Stmt := topS 19
theorem sc_throws_of : FnScope ["state", "most", "height"] ["state", "most"] (defScope s_throws_of) := ⟨rfl, rfl, rfl, by decide +kernel, rfl, by decide +kernel, by decide +kernel⟩
def f_throws_of  : FS := (fSeq (fIf (fTest (fOp2 gNotIn (fLd (fC (.int 0))) (fLv 0)))
    (fRetF (fLst (faCons (fC (.int 0)) faNil)))
    fSkip)
    (fRetF (fComp (fiRng2 (flCons (fLd (fC (.int 1))) (flCons (fLd (fOp2 gAdd (fLv 1) (fLd (fC (.int 1))))) flNil))) (setE 2) (fTest (fOp2 gNotIn (fLv 2) (fLv 0))) (fVar 2) [2])))
theorem w_throws_of {fa : Addr} {fd : FuncData} (F : Fun K "throws_of" "throws_of" s_throws_of fa fd) (m_range : mg "range" = none) : FnG P w K mg base CX0 1 fa fd ["state", "most"] (spD K [false, false] (runD [false, false] 1 (f_throws_of))) := by
  refine okD F sc_throws_of rfl rfl fun cdv A out s H E hg hr => ?_
  exact (dss_cons (ds_if (dt_cmp (op_notInA (u65 hr)) g_notIn (dl_of de_int) (dl_var 0) (by with_unfolding_all rfl))
    (dss_one (ds_retF (df_lst (da_cons de_int da_nil))))
    dss_nil)
    (dss_one (ds_retF (df_comp rfl sc_throws_of.nd (di_rng2 (by rfl) m_range (dls_cons (dl_of de_int) (dls_cons (dl_of (de_bin op_addA g_add (dl_var 1) (dl_of de_int))) dls_nil))) (blkOk_by (own := [("height", 2)]) (by kernel_rfl)) (by decide) (fun _ _ _ _ _ => (dg_name (i := 2) sc_throws_of.nd rfl (by first | exact .inl rfl | exact .inr rfl))) (fun _ _ _ _ _ => (dts_one (dt_cmp (op_notInA (u65 hr)) g_notIn (dl_var 2) (dl_var 0) (by with_unfolding_all rfl)))) (fun _ _ _ _ _ => (de_var 2))))))
def N_throws_of : Fn := runD [false, false] 1 (f_throws_of)
abbrev s_all_states : Stmt := topS 21
theorem sc_all_states : FnScope ["many", "most", "found", "place", "one"] ["many", "most"] (defScope s_all_states) := ⟨rfl, rfl, rfl, by decide +kernel, rfl, by decide +kernel, by decide +kernel⟩
def f_all_states  : FS := (fSeq (fSet 2 (fLst (faCons (fTup faNil) faNil)))
    (fSeq (fFor (fiRng1 (flCons (fLv 1) flNil)) (setE 3)
    (fSet 2 (fLst (faStar (fLv 2) (faStar (fLd (fComp (fiSeq (fVar 2)) (setE 4) (fTest (fOp2 gLt (fLd (fB gLen (flCons (fLv 4) flNil))) (fLv 0))) (fTup (faStar (fLv 4) (faCons (fVar 3) faNil))) [4])) faNil)))))
    (fRetF (fB gSorted (flCons (fLd (fComp (fiSeq (fVar 2)) (setE 4) (fTest (fOp2 gEq (fLd (fB gLen (flCons (fLv 4) flNil))) (fLv 0))) (fVar 4) [4])) flNil)))))
theorem w_all_states {fa : Addr} {fd : FuncData} (F : Fun K "all_states" "all_states" s_all_states fa fd) (m_len : mg "len" = none) (m_range : mg "range" = none) (m_sorted : mg "sorted" = none) : FnG P w K mg base CX0 1 fa fd ["many", "most"] (spD K [false, false] (runD [false, false] 3 (f_all_states))) := by
  refine okD F sc_all_states rfl rfl fun cdv A out s H E hg hr => ?_
  exact (dss_cons (ds_set (i := 2) sc_all_states.nd rfl (by first | exact .inl rfl | exact .inr rfl) (PE.ofF (df_lst (da_cons (de_tup da_nil) da_nil))))
    (dss_cons (ds_for PassesOwn.never rfl (di_rng1 (by rfl) m_range (dls_cons (dl_var 1) dls_nil)) (dg_name (i := 3) sc_all_states.nd rfl (by first | exact .inl rfl | exact .inr rfl))
    (dss_one (ds_set (i := 2) sc_all_states.nd rfl (by first | exact .inl rfl | exact .inr rfl) (PE.ofF (df_lst (da_star (dl_var 2) (da_star (dl_of (PE.ofF (df_comp rfl sc_all_states.nd (di_seq (de_var 2)) (blkOk_by (own := [("one", 4)]) (by kernel_rfl)) (by decide) (fun _ _ _ _ _ => (dg_name (i := 4) sc_all_states.nd rfl (by first | exact .inl rfl | exact .inr rfl))) (fun _ _ _ _ _ => (dts_one (dt_cmp op_lt g_cmp (dl_of (de_callB call_len g_len (by rfl) m_len b_len (dls_cons (dl_var 4) dls_nil))) (dl_var 0) (nomark _)))) (fun _ _ _ _ _ => (de_tup (da_star (dl_var 4) (da_cons (de_var 3) da_nil))))))) da_nil)))))))
    (dss_one (ds_retF (df_callB call_sortedA g_sorted (by rfl) m_sorted b_sorted (dls_cons (dl_of (PE.ofF (df_comp rfl sc_all_states.nd (di_seq (de_var 2)) (blkOk_by (own := [("one", 4)]) (by kernel_rfl)) (by decide) (fun _ _ _ _ _ => (dg_name (i := 4) sc_all_states.nd rfl (by first | exact .inl rfl | exact .inr rfl))) (fun _ _ _ _ _ => (dts_one (dt_cmp (op_eqA (u64 hr)) g_eq (dl_of (de_callB call_len g_len (by rfl) m_len b_len (dls_cons (dl_var 4) dls_nil))) (dl_var 0) (nomark _)))) (fun _ _ _ _ _ => (de_var 4))))) dls_nil))))))
def N_all_states : Fn := runD [false, false] 3 (f_all_states)
abbrev s_check_slip : Stmt := topS 25
theorem sc_check_slip : FnScope ["slip"] ["slip"] (defScope s_check_slip) := ⟨rfl, rfl, rfl, by decide +kernel, rfl, by decide +kernel, by decide +kernel⟩
def f_check_slip (n_is_integer : Fn) : FS := (fIf (ftNot (fTest (fCall [false, false, false] n_is_integer (flCons (fLv 0) (flCons (fLd (fC (.int 0))) (flCons (fLd (fC (.int 5))) flNil))))))
    fNever
    fSkip)
theorem w_check_slip {fa : Addr} {fd : FuncData} (F : Fun K "check_slip" "check_slip" s_check_slip fa fd) {a_is_integer : Addr} {d_is_integer : FuncData} {n_is_integer : Fn} (h_is_integer : Has P w K mg base 2 "is_integer" ["value", "low", "high"] [false, false, false] n_is_integer a_is_integer d_is_integer) (c_MOST_SLIP : ∃ t, mg "MOST_SLIP" = some (.int 5 t)) : FnG P w K mg base CX0 3 fa fd ["slip"] (spD K [false] (runD [false] 0 (f_check_slip n_is_integer))) := by
  refine okD F sc_check_slip rfl rfl fun cdv A out s H E hg hr => ?_
  exact (dss_one (ds_if (dt_not (dt_val (de_call (h_is_integer.go.mono (by decide)) hg hr (by rfl) h_is_integer.m h_is_integer.kp h_is_integer.b (dls_cons (dl_var 0) (dls_cons (dl_of de_int) (dls_cons (dl_of (de_globI (by rfl) c_MOST_SLIP)) dls_nil))))))
    (dss_one ds_never)
    dss_nil))
def N_check_slip : Fn := runD [false] 0 (f_check_slip N_is_integer)
abbrev s_check_lot : Stmt := topS 26
theorem sc_check_lot : FnScope ["balls", "most", "slip"] ["balls", "most", "slip"] (defScope s_check_lot) := ⟨rfl, rfl, rfl, by decide +kernel, rfl, by decide +kernel, by decide +kernel⟩
def f_check_lot (n_check_most : Fn) (n_check_slip : Fn) (n_is_integer : Fn) : FS := (fSeq (fIf (ftNot (fTest (fCall [false, false, false] n_is_integer (flCons (fLv 0) (flCons (fLd (fC (.int 0))) (flCons (fLd (fC (.int 8))) flNil))))))
    fNever
    fSkip)
    (fSeq (fDrop (fCall [false] n_check_most (flCons (fLv 1) flNil)))
    (fSeq (fIf (fTest (fOp2 gGt (fLv 0) (fLv 1)))
    fNever
    fSkip)
    (fDrop (fCall [false] n_check_slip (flCons (fLv 2) flNil))))))
theorem w_check_lot {fa : Addr} {fd : FuncData} (F : Fun K "check_lot" "check_lot" s_check_lot fa fd) {a_check_most : Addr} {d_check_most : FuncData} {n_check_most : Fn} (h_check_most : Has P w K mg base 3 "check_most" ["value"] [false] n_check_most a_check_most d_check_most) {a_check_slip : Addr} {d_check_slip : FuncData} {n_check_slip : Fn} (h_check_slip : Has P w K mg base 3 "check_slip" ["slip"] [false] n_check_slip a_check_slip d_check_slip) {a_is_integer : Addr} {d_is_integer : FuncData} {n_is_integer : Fn} (h_is_integer : Has P w K mg base 2 "is_integer" ["value", "low", "high"] [false, false, false] n_is_integer a_is_integer d_is_integer) (c_MOST_BALLS : ∃ t, mg "MOST_BALLS" = some (.int 8 t)) : FnG P w K mg base CX0 4 fa fd ["balls", "most", "slip"] (spD K [false, false, false] (runD [false, false, false] 0 (f_check_lot n_check_most n_check_slip n_is_integer))) := by
  refine okD F sc_check_lot rfl rfl fun cdv A out s H E hg hr => ?_
  exact (dss_cons (ds_if (dt_not (dt_val (de_call (h_is_integer.go.mono (by decide)) hg hr (by rfl) h_is_integer.m h_is_integer.kp h_is_integer.b (dls_cons (dl_var 0) (dls_cons (dl_of de_int) (dls_cons (dl_of (de_globI (by rfl) c_MOST_BALLS)) dls_nil))))))
    (dss_one ds_never)
    dss_nil)
    (dss_cons (ds_expr (de_call (h_check_most.go.mono (by decide)) hg hr (by rfl) h_check_most.m h_check_most.kp h_check_most.b (dls_cons (dl_var 1) dls_nil)))
    (dss_cons (ds_if (dt_cmp op_gt g_cmp (dl_var 0) (dl_var 1) (nomark _))
    (dss_one ds_never)
    dss_nil)
    (dss_one (ds_expr (de_call (h_check_slip.go.mono (by decide)) hg hr (by rfl) h_check_slip.m h_check_slip.kp h_check_slip.b (dls_cons (dl_var 2) dls_nil)))))))
def N_check_lot : Fn := runD [false, false, false] 0 (f_check_lot N_check_most N_check_slip N_is_integer)
abbrev s_slipped : Stmt := topS 27
theorem sc_slipped : FnScope ["state", "height", "most", "slip", "low", "high", "other"] ["state", "height", "most", "slip"] (defScope s_slipped) := ⟨rfl, rfl, rfl, by decide +kernel, rfl, by decide +kernel, by decide +kernel⟩
def f_slipped (n_behind_of : Fn) : FS := (fSeq (fIf (fTest (fOp2 gEq (fLv 1) (fLd (fC (.int 0)))))
    (fRetF (fLst (faCons (fCall [false, false] n_behind_of (flCons (fLv 0) (flCons (fLd (fC (.int 0))) flNil))) faNil)))
    fSkip)
    (fSeq (fPar [4, 5] (fmVal (fB gMax (flCons (fLd (fC (.int 1))) (flCons (fLd (fOp2 gSub (fLv 1) (fLv 3))) flNil))) (fmVal (fB gMin (flCons (fLv 2) (flCons (fLd (fOp2 gAdd (fLv 1) (fLv 3))) flNil))) fmNil)))
    (fRetF (fComp (fiRng2 (flCons (fLv 4) (flCons (fLd (fOp2 gAdd (fLv 5) (fLd (fC (.int 1))))) flNil))) (setE 6) fYes (fCall [false, false] n_behind_of (flCons (fLv 0) (flCons (fLv 6) flNil))) [6]))))
theorem w_slipped {fa : Addr} {fd : FuncData} (F : Fun K "slipped" "slipped" s_slipped fa fd) {a_behind_of : Addr} {d_behind_of : FuncData} {n_behind_of : Fn} (h_behind_of : Has P w K mg base 1 "behind_of" ["state", "height"] [false, false] n_behind_of a_behind_of d_behind_of) (m_max : mg "max" = none) (m_min : mg "min" = none) (m_range : mg "range" = none) : FnG P w K mg base CX0 2 fa fd ["state", "height", "most", "slip"] (spD K [false, false, false, false] (runD [false, false, false, false] 3 (f_slipped n_behind_of))) := by
  refine okD F sc_slipped rfl rfl fun cdv A out s H E hg hr => ?_
  exact (dss_cons (ds_if (dt_cmp (op_eqA (u64 hr)) g_eq (dl_var 1) (dl_of de_int) (nomark _))
    (dss_one (ds_retF (df_lst (da_cons (de_call (h_behind_of.go.mono (by decide)) hg hr (by rfl) h_behind_of.m h_behind_of.kp h_behind_of.b (dls_cons (dl_var 0) (dls_cons (dl_of de_int) dls_nil))) da_nil))))
    dss_nil)
    (dss_cons (ds_par (i := 4) (j := 5) rfl sc_slipped.nd rfl rfl (by decide) rfl rfl (dm_val (de_callB (call_maxA rfl) g_max (by rfl) m_max b_max (dls_cons (dl_of de_int) (dls_cons (dl_of (de_bin op_sub g_sub (dl_var 1) (dl_var 3))) dls_nil))) (dm_val (de_callB (call_minA rfl) g_min (by rfl) m_min b_min (dls_cons (dl_var 2) (dls_cons (dl_of (de_bin op_addA g_add (dl_var 1) (dl_var 3))) dls_nil))) dm_nil)) (by rfl))
    (dss_one (ds_retF (df_comp rfl sc_slipped.nd (di_rng2 (by rfl) m_range (dls_cons (dl_var 4) (dls_cons (dl_of (de_bin op_addA g_add (dl_var 5) (dl_of de_int))) dls_nil))) (blkOk_by (own := [("other", 6)]) (by kernel_rfl)) (by decide) (fun _ _ _ _ _ => (dg_name (i := 6) sc_slipped.nd rfl (by first | exact .inl rfl | exact .inr rfl))) (fun _ _ _ _ _ => dts_nil) (fun _ _ _ _ _ => (de_call (h_behind_of.go.mono (by decide)) hg hr (by rfl) h_behind_of.m h_behind_of.kp h_behind_of.b (dls_cons (dl_var 0) (dls_cons (dl_var 6) dls_nil)))))))))
def N_slipped : Fn := runD [false, false, false, false] 3 (f_slipped N_behind_of)
abbrev s_options : Stmt := topS 28
theorem sc_options : FnScope ["state", "most", "slip", "height"] ["state", "most", "slip"] (defScope s_options) := ⟨rfl, rfl, rfl, by decide +kernel, rfl, by decide +kernel, by decide +kernel⟩
def f_options (n_slipped : Fn) (n_throws_of : Fn) : FS := (fRetF (fComp (fiSeq (fCall [false, false] n_throws_of (flCons (fLv 0) (flCons (fLv 1) flNil)))) (setE 3) fYes (fCall [false, false, false, false] n_slipped (flCons (fLv 0) (flCons (fLv 3) (flCons (fLv 1) (flCons (fLv 2) flNil))))) [3]))
theorem w_options {fa : Addr} {fd : FuncData} (F : Fun K "options" "options" s_options fa fd) {a_slipped : Addr} {d_slipped : FuncData} {n_slipped : Fn} (h_slipped : Has P w K mg base 2 "slipped" ["state", "height", "most", "slip"] [false, false, false, false] n_slipped a_slipped d_slipped) {a_throws_of : Addr} {d_throws_of : FuncData} {n_throws_of : Fn} (h_throws_of : Has P w K mg base 1 "throws_of" ["state", "most"] [false, false] n_throws_of a_throws_of d_throws_of) : FnG P w K mg base CX0 3 fa fd ["state", "most", "slip"] (spD K [false, false, false] (runD [false, false, false] 1 (f_options n_slipped n_throws_of))) := by
  refine okD F sc_options rfl rfl fun cdv A out s H E hg hr => ?_
  exact (dss_one (ds_retF (df_comp rfl sc_options.nd (di_seq (de_call (h_throws_of.go.mono (by decide)) hg hr (by rfl) h_throws_of.m h_throws_of.kp h_throws_of.b (dls_cons (dl_var 0) (dls_cons (dl_var 1) dls_nil)))) (blkOk_by (own := [("height", 3)]) (by kernel_rfl)) (by decide) (fun _ _ _ _ _ => (dg_name (i := 3) sc_options.nd rfl (by first | exact .inl rfl | exact .inr rfl))) (fun _ _ _ _ _ => dts_nil) (fun _ _ _ _ _ => (de_call (h_slipped.go.mono (by decide)) hg hr (by rfl) h_slipped.m h_slipped.kp h_slipped.b (dls_cons (dl_var 0) (dls_cons (dl_var 3) (dls_cons (dl_var 1) (dls_cons (dl_var 2) dls_nil)))))))))
def N_options : Fn := runD [false, false, false] 1 (f_options N_slipped N_throws_of)
abbrev s_can_clash : Stmt := topS 30
theorem sc_can_clash : FnScope ["found", "behind", "state"] ["found", "behind"] (defScope s_can_clash) := ⟨rfl, rfl, rfl, by decide +kernel, rfl, by decide +kernel, by decide +kernel⟩
def f_can_clash  : FS := (fRet (fB gAny (flCons (fLd (fComp (fiSeq (fVar 1)) (setE 2) fYes (feOr (fOp2 gIs (fLv 2) (fLd (fC .non))) (fOp2 gIsNot (fLd (fOp2 gIx (fLv 0) (fLv 2))) (fLd (fC .non)))) [2])) flNil)))
theorem w_can_clash {fa : Addr} {fd : FuncData} (F : Fun K "can_clash" "can_clash" s_can_clash fa fd) (m_any : mg "any" = none) : FnG P w K mg base CX0 1 fa fd ["found", "behind"] (spD K [false, false] (runD [false, false] 1 (f_can_clash))) := by
  refine okD F sc_can_clash rfl rfl fun cdv A out s H E hg hr => ?_
  exact (dss_one (ds_ret (de_callB (cr_any rfl) g_any (by rfl) m_any b_any (dls_cons (dl_of (PE.ofF (df_comp rfl sc_can_clash.nd (di_seq (de_var 1)) (blkOk_by (own := [("state", 2)]) (by kernel_rfl)) (by decide) (fun _ _ _ _ _ => (dg_name (i := 2) sc_can_clash.nd rfl (by first | exact .inl rfl | exact .inr rfl))) (fun _ _ _ _ _ => dts_nil) (fun _ _ _ _ _ => (de_or (de_cmp op_isA g_is (dl_var 2) (dl_of de_non) (nomark _)) (de_one (de_cmp op_isNotA g_isNot (dl_of (de_ix (ix_A (u1 hr)) g_ix (dl_var 0) (dl_var 2) (fun _ _ => rfl))) (dl_of de_non) (nomark _)))))))) dls_nil))))
def N_can_clash : Fn := runD [false, false] 1 (f_can_clash)
abbrev s_clashes_of : Stmt := topS 29
theorem sc_clashes_of : FnScope ["balls", "most", "slip", "known", "found", "lap", "is_moved", "later", "state", "some", "one"] ["balls", "most", "slip"] (defScope s_clashes_of) := ⟨rfl, rfl, rfl, by decide +kernel, rfl, by decide +kernel, by decide +kernel⟩
def f_clashes_of (n_all_states : Fn) (n_can_clash : Fn) (n_options : Fn) : FS := (fSeq (fSet 3 (fCompQ true (fiSeq (fCall [false, false] n_all_states (flCons (fLv 0) (flCons (fLv 1) flNil)))) (setE 8) fYes (fVar 8) (fCall [false, false, false] n_options (flCons (fLv 8) (flCons (fLv 1) (flCons (fLv 2) flNil)))) [8]))
    (fSeq (fPar [4, 5, 6] (fmOwn (fCompQ true (fiKeysV 3) (setE 8) fYes (fVar 8) (fC .non) [8]) (fmVal (fC (.int 0)) (fmVal (fC (.bl true)) fmNil))))
    (fSeq (fWhile 200 (fTest (fVar 6))
    (fSeq (fPar [5, 6, 7] (fmVal (fOp2 gAdd (fLv 5) (fLd (fC (.int 1)))) (fmVal (fC (.bl false)) (fmOwn (fLst faNil) fmNil))))
    (fSeq (fFor (fiItems 3) (fgTup (fgCons (setE 8) (fgCons (setE 9) fgNil)) 2)
    (fIf (ftAnd (fTest (fOp2 gIs (fLd (fOp2 gIx (fLv 4) (fLv 8))) (fLd (fC .non)))) (fTest (fB gAll (flCons (fLd (fComp (fiSeq (fVar 9)) (setE 10) fYes (fCallBor n_can_clash (flCons (fLv 4) (flCons (fLv 10) flNil))) [10])) flNil))))
    (fDrop (fAppend 7 (faCons (fVar 8) faNil)))
    fSkip))
    (fFrz 7 (fFor (fiSeq (fVar 7)) (setE 8)
    (fAsg (fTup (faCons (fVar 5) (faCons (fC (.bl true)) faNil))) (fgTup (fgCons (fgSub 4 (fLv 8)) (fgCons (setE 6) fgNil)) 2)))))))
    (fRetO 4))))
theorem w_clashes_of {fa : Addr} {fd : FuncData} (F : Fun K "clashes_of" "clashes_of" s_clashes_of fa fd) {a_all_states : Addr} {d_all_states : FuncData} {n_all_states : Fn} (h_all_states : Has P w K mg base 1 "all_states" ["many", "most"] [false, false] n_all_states a_all_states d_all_states) {a_can_clash : Addr} {d_can_clash : FuncData} {n_can_clash : Fn} (h_can_clash : Has P w K mg base 1 "can_clash" ["found", "behind"] [false, false] n_can_clash a_can_clash d_can_clash) (l_can_clash : ∀ ds t, n_can_clash ds = some t → ds.length = 2) {a_options : Addr} {d_options : FuncData} {n_options : Fn} (h_options : Has P w K mg base 3 "options" ["state", "most", "slip"] [false, false, false] n_options a_options d_options) (m_all : mg "all" = none) : FnG P w K mg base CX0 4 fa fd ["balls", "most", "slip"] (spD K [false, false, false] (runD [false, false, false] 8 (f_clashes_of n_all_states n_can_clash n_options))) := by
  refine okD F sc_clashes_of rfl rfl fun cdv A out s H E hg hr => ?_
  exact (dss_cons (ds_setDcV true (u64 hr) rfl sc_clashes_of.nd rfl rfl (by rfl) (di_seq (de_call (h_all_states.go.mono (by decide)) hg hr (by rfl) h_all_states.m h_all_states.kp h_all_states.b (dls_cons (dl_var 0) (dls_cons (dl_var 1) dls_nil)))) (blkOk_by (own := [("state", 8)]) (by kernel_rfl)) (by decide) (fun _ _ _ _ _ => (dg_name (i := 8) sc_clashes_of.nd rfl (by first | exact .inl rfl | exact .inr rfl))) (fun _ _ _ _ _ => dts_nil) (fun _ _ _ _ _ => (de_var 8)) (fun _ _ _ _ _ => (de_call (h_options.go.mono (by decide)) hg hr (by rfl) h_options.m h_options.kp h_options.b (dls_cons (dl_var 8) (dls_cons (dl_var 1) (dls_cons (dl_var 2) dls_nil))))))
    (dss_cons (ds_parU3 (i := 4) (j := 5) (l := 6) rfl sc_clashes_of.nd rfl rfl rfl (by first | exact .inl rfl | exact .inr rfl) (by first | exact .inl rfl | exact .inr rfl) (by first | exact .inl rfl | exact .inr rfl) (dm_own (df_dcompL true (fun _ _ => keysV_dat) (u64 hr) rfl sc_clashes_of.nd (di_keysV 3) (blkOk_by (own := [("state", 8)]) (by kernel_rfl)) (by decide) (fun _ _ _ _ _ => (dg_name (i := 8) sc_clashes_of.nd rfl (by first | exact .inl rfl | exact .inr rfl))) (fun _ _ _ _ _ => dts_nil) (fun _ _ _ _ _ => (de_var 8)) (fun _ _ _ _ _ => de_non)) (dm_val de_int (dm_val de_bl dm_nil))))
    (dss_cons (ds_while 200 PassesOwn.never (dt_val (de_var 6))
    (dss_cons (ds_par3 (i := 5) (j := 6) (l := 7) rfl sc_clashes_of.nd rfl rfl rfl (by decide) (by decide) (by decide) rfl rfl rfl (dm_val (de_bin op_addA g_add (dl_var 5) (dl_of de_int)) (dm_val de_bl (dm_own (df_lst da_nil) dm_nil))) (by rfl))
    (dss_cons (ds_forL (fun _ _ => items_dat) PassesOwn.never rfl (di_items 3) (dg_tup rfl (dgs_cons (dg_name (i := 8) sc_clashes_of.nd rfl (by first | exact .inl rfl | exact .inr rfl)) (dgs_cons (dg_name (i := 9) sc_clashes_of.nd rfl (by first | exact .inl rfl | exact .inr rfl)) dgs_nil)))
    (dss_one (ds_if (PW.pt (dw_and (dt_cmp op_isA g_is (dl_of (de_ix (ix_A (u1 hr)) g_ix (dl_var 4) (dl_var 8) (fun _ _ => rfl))) (dl_of de_non) (nomark _)) (dw_and1 (dt_val (de_callB (cr_all rfl) g_all (by rfl) m_all b_all (dls_cons (dl_of (PE.ofF (df_comp rfl sc_clashes_of.nd (di_seq (de_var 9)) (blkOk_by (own := [("one", 10)]) (by kernel_rfl)) (by decide) (fun _ _ _ _ _ => (dg_name (i := 10) sc_clashes_of.nd rfl (by first | exact .inl rfl | exact .inr rfl))) (fun _ _ _ _ _ => dts_nil) (fun _ _ _ _ _ => (de_callBor (h_can_clash.go.mono (by decide)) hg hr (by rfl) h_can_clash.m h_can_clash.kp h_can_clash.b (dls_cons (dl_var 4) (dls_cons (dl_var 10) dls_nil)) (by decide) l_can_clash))))) dls_nil))))))
    (dss_one (ds_expr (de_append (pe_bm PySem.F.plainAttrs_list PySem.F.slot_list_append PySem.F.type_list_append mt_append (pv 7) (da_cons (de_var 8) da_nil)))))
    dss_nil)))
    (dss_one (ds_frz 7 (ds_for PassesOwn.never rfl (di_seq (de_var 7)) (dg_name (i := 8) sc_clashes_of.nd rfl (by first | exact .inl rfl | exact .inr rfl))
    (dss_one (ds_asg (de_tup (da_cons (de_var 5) (da_cons de_bl da_nil))) (dg_tup rfl (dgs_cons (dg_sub (i := 4) (u1 hr) (dl_var 8)) (dgs_cons (dg_name (i := 6) sc_clashes_of.nd rfl (by first | exact .inl rfl | exact .inr rfl)) dgs_nil)))))))))))
    (dss_one (ds_retO 4)))))
def N_clashes_of : Fn := runD [false, false, false] 8 (f_clashes_of N_all_states N_can_clash N_options)
abbrev s_clashes : Stmt := topS 31
theorem sc_clashes : FnScope ["balls", "most", "slip", "found", "state"] ["balls", "most", "slip"] (defScope s_clashes) := ⟨rfl, rfl, rfl, by decide +kernel, rfl, by decide +kernel, by decide +kernel⟩
def f_clashes (n_check_lot : Fn) (n_clashes_of : Fn) : FS := (fSeq (fDrop (fCall [false, false, false] n_check_lot (flCons (fLv 0) (flCons (fLv 1) (flCons (fLv 2) flNil)))))
    (fSeq (fSet 3 (fCall [false, false, false] n_clashes_of (flCons (fLv 0) (flCons (fLv 1) (flCons (fLv 2) flNil)))))
    (fRet (fB gTuple (flCons (fLd (fComp (fiSeq (fB gSortD (flCons (fLv 3) flNil))) (setE 4) fYes (fTup (faCons (fVar 4) (faCons (fOp2 gIx (fLv 3) (fLv 4)) faNil))) [4])) flNil)))))
theorem w_clashes {fa : Addr} {fd : FuncData} (F : Fun K "clashes" "clashes" s_clashes fa fd) {a_check_lot : Addr} {d_check_lot : FuncData} {n_check_lot : Fn} (h_check_lot : Has P w K mg base 4 "check_lot" ["balls", "most", "slip"] [false, false, false] n_check_lot a_check_lot d_check_lot) {a_clashes_of : Addr} {d_clashes_of : FuncData} {n_clashes_of : Fn} (h_clashes_of : Has P w K mg base 4 "clashes_of" ["balls", "most", "slip"] [false, false, false] n_clashes_of a_clashes_of d_clashes_of) (m_sorted : mg "sorted" = none) (m_tuple : mg "tuple" = none) : FnG P w K mg base CX0 5 fa fd ["balls", "most", "slip"] (spD K [false, false, false] (runD [false, false, false] 2 (f_clashes n_check_lot n_clashes_of))) := by
  refine okD F sc_clashes rfl rfl fun cdv A out s H E hg hr => ?_
  exact (dss_cons (ds_expr (de_call (h_check_lot.go.mono (by decide)) hg hr (by rfl) h_check_lot.m h_check_lot.kp h_check_lot.b (dls_cons (dl_var 0) (dls_cons (dl_var 1) (dls_cons (dl_var 2) dls_nil)))))
    (dss_cons (ds_set (i := 3) sc_clashes.nd rfl (by first | exact .inl rfl | exact .inr rfl) (de_call (h_clashes_of.go.mono (by decide)) hg hr (by rfl) h_clashes_of.m h_clashes_of.kp h_clashes_of.b (dls_cons (dl_var 0) (dls_cons (dl_var 1) (dls_cons (dl_var 2) dls_nil)))))
    (dss_one (ds_ret (de_callT call_tuple_of g_tuple (by rfl) m_tuple b_tuple (dls_cons (dl_of (PE.ofF (df_comp rfl sc_clashes.nd (di_seq (PE.ofF (df_sortD rfl (by rfl) m_sorted (dls_cons (dl_var 3) dls_nil)))) (blkOk_by (own := [("state", 4)]) (by kernel_rfl)) (by decide) (fun _ _ _ _ _ => (dg_name (i := 4) sc_clashes.nd rfl (by first | exact .inl rfl | exact .inr rfl))) (fun _ _ _ _ _ => dts_nil) (fun _ _ _ _ _ => (de_tup (da_cons (de_var 4) (da_cons (de_ix (ix_A (u1 hr)) g_ix (dl_var 3) (dl_var 4) (fun _ _ => rfl)) da_nil))))))) dls_nil))))))
def N_clashes : Fn := runD [false, false, false] 2 (f_clashes N_check_lot N_clashes_of)
abbrev s_safe : Stmt := topS 32
theorem sc_safe : FnScope ["balls", "most", "slip", "found", "state"] ["balls", "most", "slip"] (defScope s_safe) := ⟨rfl, rfl, rfl, by decide +kernel, rfl, by decide +kernel, by decide +kernel⟩
def f_safe (n_check_lot : Fn) (n_clashes_of : Fn) : FS := (fSeq (fDrop (fCall [false, false, false] n_check_lot (flCons (fLv 0) (flCons (fLv 1) (flCons (fLv 2) flNil)))))
    (fSeq (fSet 3 (fCall [false, false, false] n_clashes_of (flCons (fLv 0) (flCons (fLv 1) (flCons (fLv 2) flNil)))))
    (fRet (fB gTuple (flCons (fLd (fComp (fiSeq (fB gSortD (flCons (fLv 3) flNil))) (setE 4) (fTest (fOp2 gIs (fLd (fOp2 gIx (fLv 3) (fLv 4))) (fLd (fC .non)))) (fVar 4) [4])) flNil)))))
theorem w_safe {fa : Addr} {fd : FuncData} (F : Fun K "safe" "safe" s_safe fa fd) {a_check_lot : Addr} {d_check_lot : FuncData} {n_check_lot : Fn} (h_check_lot : Has P w K mg base 4 "check_lot" ["balls", "most", "slip"] [false, false, false] n_check_lot a_check_lot d_check_lot) {a_clashes_of : Addr} {d_clashes_of : FuncData} {n_clashes_of : Fn} (h_clashes_of : Has P w K mg base 4 "clashes_of" ["balls", "most", "slip"] [false, false, false] n_clashes_of a_clashes_of d_clashes_of) (m_sorted : mg "sorted" = none) (m_tuple : mg "tuple" = none) : FnG P w K mg base CX0 5 fa fd ["balls", "most", "slip"] (spD K [false, false, false] (runD [false, false, false] 2 (f_safe n_check_lot n_clashes_of))) := by
  refine okD F sc_safe rfl rfl fun cdv A out s H E hg hr => ?_
  exact (dss_cons (ds_expr (de_call (h_check_lot.go.mono (by decide)) hg hr (by rfl) h_check_lot.m h_check_lot.kp h_check_lot.b (dls_cons (dl_var 0) (dls_cons (dl_var 1) (dls_cons (dl_var 2) dls_nil)))))
    (dss_cons (ds_set (i := 3) sc_safe.nd rfl (by first | exact .inl rfl | exact .inr rfl) (de_call (h_clashes_of.go.mono (by decide)) hg hr (by rfl) h_clashes_of.m h_clashes_of.kp h_clashes_of.b (dls_cons (dl_var 0) (dls_cons (dl_var 1) (dls_cons (dl_var 2) dls_nil)))))
    (dss_one (ds_ret (de_callT call_tuple_of g_tuple (by rfl) m_tuple b_tuple (dls_cons (dl_of (PE.ofF (df_comp rfl sc_safe.nd (di_seq (PE.ofF (df_sortD rfl (by rfl) m_sorted (dls_cons (dl_var 3) dls_nil)))) (blkOk_by (own := [("state", 4)]) (by kernel_rfl)) (by decide) (fun _ _ _ _ _ => (dg_name (i := 4) sc_safe.nd rfl (by first | exact .inl rfl | exact .inr rfl))) (fun _ _ _ _ _ => (dts_one (dt_cmp op_isA g_is (dl_of (de_ix (ix_A (u1 hr)) g_ix (dl_var 3) (dl_var 4) (fun _ _ => rfl))) (dl_of de_non) (nomark _)))) (fun _ _ _ _ _ => (de_var 4))))) dls_nil))))))
def N_safe : Fn := runD [false, false, false] 2 (f_safe N_check_lot N_clashes_of)
abbrev s_safe_throws : Stmt := topS 33
theorem sc_safe_throws : FnScope ["state", "most", "slip", "found", "some", "height", "behind"] ["state", "most", "slip"] (defScope s_safe_throws) := ⟨rfl, rfl, rfl, by decide +kernel, rfl, by decide +kernel, by decide +kernel⟩
def f_safe_throws (n_can_clash : Fn) (n_check_fitting : Fn) (n_check_slip : Fn) (n_clashes_of : Fn) (n_slipped : Fn) (n_throws_of : Fn) : FS := (fSeq (fDrop (fCall [false, false] n_check_fitting (flCons (fLv 0) (flCons (fLv 1) flNil))))
    (fSeq (fDrop (fCall [false] n_check_slip (flCons (fLv 2) flNil)))
    (fSeq (fSet 3 (fCall [false, false, false] n_clashes_of (flCons (fLd (fB gLen (flCons (fLv 0) flNil))) (flCons (fLv 1) (flCons (fLv 2) flNil)))))
    (fSeq (fSet 4 (fComp (fiSeq (fCall [false, false] n_throws_of (flCons (fLv 0) (flCons (fLv 1) flNil)))) (setE 5) fYes (fTup (faCons (fVar 5) (faCons (fCall [false, false, false, false] n_slipped (flCons (fLv 0) (flCons (fLv 5) (flCons (fLv 1) (flCons (fLv 2) flNil))))) faNil))) [5]))
    (fRet (fB gTuple (flCons (fLd (fComp (fiSeq (fVar 4)) (fgTup (fgCons (setE 5) (fgCons (setE 6) fgNil)) 2) (ftNot (fTest (fCall [false, false] n_can_clash (flCons (fLv 3) (flCons (fLv 6) flNil))))) (fVar 5) [5, 6])) flNil)))))))
theorem w_safe_throws {fa : Addr} {fd : FuncData} (F : Fun K "safe_throws" "safe_throws" s_safe_throws fa fd) {a_can_clash : Addr} {d_can_clash : FuncData} {n_can_clash : Fn} (h_can_clash : Has P w K mg base 1 "can_clash" ["found", "behind"] [false, false] n_can_clash a_can_clash d_can_clash) {a_check_fitting : Addr} {d_check_fitting : FuncData} {n_check_fitting : Fn} (h_check_fitting : Has P w K mg base 6 "check_fitting" ["state", "most"] [false, false] n_check_fitting a_check_fitting d_check_fitting) {a_check_slip : Addr} {d_check_slip : FuncData} {n_check_slip : Fn} (h_check_slip : Has P w K mg base 3 "check_slip" ["slip"] [false] n_check_slip a_check_slip d_check_slip) {a_clashes_of : Addr} {d_clashes_of : FuncData} {n_clashes_of : Fn} (h_clashes_of : Has P w K mg base 4 "clashes_of" ["balls", "most", "slip"] [false, false, false] n_clashes_of a_clashes_of d_clashes_of) {a_slipped : Addr} {d_slipped : FuncData} {n_slipped : Fn} (h_slipped : Has P w K mg base 2 "slipped" ["state", "height", "most", "slip"] [false, false, false, false] n_slipped a_slipped d_slipped) {a_throws_of : Addr} {d_throws_of : FuncData} {n_throws_of : Fn} (h_throws_of : Has P w K mg base 1 "throws_of" ["state", "most"] [false, false] n_throws_of a_throws_of d_throws_of) (m_len : mg "len" = none) (m_tuple : mg "tuple" = none) : FnG P w K mg base CX0 7 fa fd ["state", "most", "slip"] (spD K [false, false, false] (runD [false, false, false] 4 (f_safe_throws n_can_clash n_check_fitting n_check_slip n_clashes_of n_slipped n_throws_of))) := by
  refine okD F sc_safe_throws rfl rfl fun cdv A out s H E hg hr => ?_
  exact (dss_cons (ds_expr (de_call (h_check_fitting.go.mono (by decide)) hg hr (by rfl) h_check_fitting.m h_check_fitting.kp h_check_fitting.b (dls_cons (dl_var 0) (dls_cons (dl_var 1) dls_nil))))
    (dss_cons (ds_expr (de_call (h_check_slip.go.mono (by decide)) hg hr (by rfl) h_check_slip.m h_check_slip.kp h_check_slip.b (dls_cons (dl_var 2) dls_nil)))
    (dss_cons (ds_set (i := 3) sc_safe_throws.nd rfl (by first | exact .inl rfl | exact .inr rfl) (de_call (h_clashes_of.go.mono (by decide)) hg hr (by rfl) h_clashes_of.m h_clashes_of.kp h_clashes_of.b (dls_cons (dl_of (de_callB call_len g_len (by rfl) m_len b_len (dls_cons (dl_var 0) dls_nil))) (dls_cons (dl_var 1) (dls_cons (dl_var 2) dls_nil)))))
    (dss_cons (ds_setLcV rfl sc_safe_throws.nd rfl rfl (by rfl) (di_seq (de_call (h_throws_of.go.mono (by decide)) hg hr (by rfl) h_throws_of.m h_throws_of.kp h_throws_of.b (dls_cons (dl_var 0) (dls_cons (dl_var 1) dls_nil)))) (blkOk_by (own := [("height", 5)]) (by kernel_rfl)) (by decide) (fun _ _ _ _ _ => (dg_name (i := 5) sc_safe_throws.nd rfl (by first | exact .inl rfl | exact .inr rfl))) (fun _ _ _ _ _ => dts_nil) (fun _ _ _ _ _ => (de_tup (da_cons (de_var 5) (da_cons (de_call (h_slipped.go.mono (by decide)) hg hr (by rfl) h_slipped.m h_slipped.kp h_slipped.b (dls_cons (dl_var 0) (dls_cons (dl_var 5) (dls_cons (dl_var 1) (dls_cons (dl_var 2) dls_nil))))) da_nil)))))
    (dss_one (ds_ret (de_callT call_tuple_of g_tuple (by rfl) m_tuple b_tuple (dls_cons (dl_of (PE.ofF (df_comp rfl sc_safe_throws.nd (di_seq (de_var 4)) (blkOk_by (own := [("height", 5), ("behind", 6)]) (by kernel_rfl)) (by decide) (fun _ _ _ _ _ => (dg_tup rfl (dgs_cons (dg_name (i := 5) sc_safe_throws.nd rfl (by first | exact .inl rfl | exact .inr rfl)) (dgs_cons (dg_name (i := 6) sc_safe_throws.nd rfl (by first | exact .inl rfl | exact .inr rfl)) dgs_nil)))) (fun _ _ _ _ _ => (dts_one (dt_not (dt_val (de_call (h_can_clash.go.mono (by decide)) hg hr (by rfl) h_can_clash.m h_can_clash.kp h_can_clash.b (dls_cons (dl_var 3) (dls_cons (dl_var 6) dls_nil))))))) (fun _ _ _ _ _ => (de_var 5))))) dls_nil))))))))
def N_safe_throws : Fn := runD [false, false, false] 4 (f_safe_throws N_can_clash N_check_fitting N_check_slip N_clashes_of N_slipped N_throws_of)
abbrev s_is_same : Stmt := topS 35
theorem sc_is_same : FnScope ["value", "state", "one", "place"] ["value", "state"] (defScope s_is_same) := ⟨rfl, rfl, rfl, by decide +kernel, rfl, by decide +kernel, by decide +kernel⟩
def f_is_same (n_is_integer : Fn) (n_is_tuple : Fn) : FS := (fSeq (fIf (ftNot (fTest (fCall [false, false, false] n_is_tuple (flCons (fLv 0) (flCons (fLd (fB gLen (flCons (fLv 1) flNil))) (flCons (fLd (fB gLen (flCons (fLv 1) flNil))) flNil))))))
    (fRet (fC (.bl false)))
    fSkip)
    (fRet (fB gAll (flCons (fLd (fComp (fiZip (faCons (fVar 0) (faCons (fVar 1) faNil))) (fgTup (fgCons (setE 2) (fgCons (setE 3) fgNil)) 2) fYes (fCall [false, false, false] n_is_integer (flCons (fLv 2) (flCons (fLv 3) (flCons (fLv 3) flNil)))) [2, 3])) flNil))))
theorem w_is_same {fa : Addr} {fd : FuncData} (F : Fun K "is_same" "is_same" s_is_same fa fd) {a_is_integer : Addr} {d_is_integer : FuncData} {n_is_integer : Fn} (h_is_integer : Has P w K mg base 2 "is_integer" ["value", "low", "high"] [false, false, false] n_is_integer a_is_integer d_is_integer) {a_is_tuple : Addr} {d_is_tuple : FuncData} {n_is_tuple : Fn} (h_is_tuple : Has P w K mg base 1 "is_tuple" ["value", "least", "most"] [false, false, false] n_is_tuple a_is_tuple d_is_tuple) (m_all : mg "all" = none) (m_len : mg "len" = none) (m_zip : mg "zip" = none) : FnG P w K mg base CX0 3 fa fd ["value", "state"] (spD K [false, false] (runD [false, false] 2 (f_is_same n_is_integer n_is_tuple))) := by
  refine okD F sc_is_same rfl rfl fun cdv A out s H E hg hr => ?_
  exact (dss_cons (ds_if (dt_not (dt_val (de_call (h_is_tuple.go.mono (by decide)) hg hr (by rfl) h_is_tuple.m h_is_tuple.kp h_is_tuple.b (dls_cons (dl_var 0) (dls_cons (dl_of (de_callB call_len g_len (by rfl) m_len b_len (dls_cons (dl_var 1) dls_nil))) (dls_cons (dl_of (de_callB call_len g_len (by rfl) m_len b_len (dls_cons (dl_var 1) dls_nil))) dls_nil))))))
    (dss_one (ds_ret de_bl))
    dss_nil)
    (dss_one (ds_ret (de_callB (cr_all rfl) g_all (by rfl) m_all b_all (dls_cons (dl_of (PE.ofF (df_comp rfl sc_is_same.nd (di_zip (by rfl) m_zip (da_cons (de_var 0) (da_cons (de_var 1) da_nil))) (blkOk_by (own := [("one", 2), ("place", 3)]) (by kernel_rfl)) (by decide) (fun _ _ _ _ _ => (dg_tup rfl (dgs_cons (dg_name (i := 2) sc_is_same.nd rfl (by first | exact .inl rfl | exact .inr rfl)) (dgs_cons (dg_name (i := 3) sc_is_same.nd rfl (by first | exact .inl rfl | exact .inr rfl)) dgs_nil)))) (fun _ _ _ _ _ => dts_nil) (fun _ _ _ _ _ => (de_call (h_is_integer.go.mono (by decide)) hg hr (by rfl) h_is_integer.m h_is_integer.kp h_is_integer.b (dls_cons (dl_var 2) (dls_cons (dl_var 3) (dls_cons (dl_var 3) dls_nil)))))))) dls_nil)))))
def N_is_same : Fn := runD [false, false] 2 (f_is_same N_is_integer N_is_tuple)
abbrev s_is_beats : Stmt := topS 36
theorem sc_is_beats : FnScope ["value"] ["value"] (defScope s_is_beats) := ⟨rfl, rfl, rfl, by decide +kernel, rfl, by decide +kernel, by decide +kernel⟩
def f_is_beats  : FS := (fRet (feOr (fOp2 gIs (fLv 0) (fLd (fC .non))) (feAnd (fIsi "int" (fLv 0)) (feAnd (feNot (fIsi "bool" (fLv 0))) (fOp2 gGe (fLv 0) (fLd (fC (.int 1))))))))
theorem w_is_beats {fa : Addr} {fd : FuncData} (F : Fun K "is_beats" "is_beats" s_is_beats fa fd) (m_bool : mg "bool" = none) (m_int : mg "int" = none) (m_isinstance : mg "isinstance" = none) : FnG P w K mg base CX0 1 fa fd ["value"] (spD K [false] (runD [false] 0 (f_is_beats))) := by
  refine okD F sc_is_beats rfl rfl fun cdv A out s H E hg hr => ?_
  exact (dss_one (ds_ret (de_or (de_cmp op_isA g_is (dl_var 0) (dl_of de_non) (nomark _)) (de_one (de_and (de_isi (T := "int") (by decide) (by rfl) m_isinstance (by rfl) m_int b_int (dl_var 0)) (de_and (de_not (de_isi (T := "bool") (by decide) (by rfl) m_isinstance (by rfl) m_bool b_bool (dl_var 0))) (de_one (de_cmp op_ge g_cmp (dl_var 0) (dl_of de_int) (nomark _)))))))))
def N_is_beats : Fn := runD [false] 0 (f_is_beats)
abbrev s_is_row_of : Stmt := topS 34
theorem sc_is_row_of : FnScope ["states", "value", "state", "row"] ["states", "value"] (defScope s_is_row_of) := ⟨rfl, rfl, rfl, by decide +kernel, rfl, by decide +kernel, by decide +kernel⟩
def f_is_row_of (n_is_beats : Fn) (n_is_same : Fn) (n_is_tuple : Fn) : FS := (fSeq (fIf (ftOr (ftNot (fTest (fCall [false, false, false] n_is_tuple (flCons (fLv 1) (flCons (fLd (fB gLen (flCons (fLv 0) flNil))) (flCons (fLd (fB gLen (flCons (fLv 0) flNil))) flNil)))))) (ftNot (fTest (fB gAll (flCons (fLd (fComp (fiSeq (fVar 1)) (setE 3) fYes (fCall [false, false, false] n_is_tuple (flCons (fLv 3) (flCons (fLd (fC (.int 2))) (flCons (fLd (fC (.int 2))) flNil)))) [3])) flNil)))))
    (fRet (fC (.bl false)))
    fSkip)
    (fSeq (fFor (fiZipM (faCons (fVar 0) (faCons (fVar 1) faNil))) (fgTup (fgCons (setE 2) (fgCons (setE 3) fgNil)) 2)
    (fIf (ftOr (ftNot (fTest (fCall [false, false] n_is_same (flCons (fLd (fOp2 gIx (fLv 3) (fLd (fC (.int 0))))) (flCons (fLv 2) flNil))))) (ftNot (fTest (fCall [false] n_is_beats (flCons (fLd (fOp2 gIx (fLv 3) (fLd (fC (.int 1))))) flNil)))))
    (fRet (fC (.bl false)))
    fSkip))
    (fRet (fC (.bl true)))))
theorem w_is_row_of {fa : Addr} {fd : FuncData} (F : Fun K "is_row_of" "is_row_of" s_is_row_of fa fd) {a_is_beats : Addr} {d_is_beats : FuncData} {n_is_beats : Fn} (h_is_beats : Has P w K mg base 1 "is_beats" ["value"] [false] n_is_beats a_is_beats d_is_beats) {a_is_same : Addr} {d_is_same : FuncData} {n_is_same : Fn} (h_is_same : Has P w K mg base 3 "is_same" ["value", "state"] [false, false] n_is_same a_is_same d_is_same) {a_is_tuple : Addr} {d_is_tuple : FuncData} {n_is_tuple : Fn} (h_is_tuple : Has P w K mg base 1 "is_tuple" ["value", "least", "most"] [false, false, false] n_is_tuple a_is_tuple d_is_tuple) (m_all : mg "all" = none) (m_len : mg "len" = none) (m_zip : mg "zip" = none) (c_PAIR : ∃ t, mg "PAIR" = some (.int 2 t)) : FnG P w K mg base CX0 4 fa fd ["states", "value"] (spD K [false, false] (runD [false, false] 2 (f_is_row_of n_is_beats n_is_same n_is_tuple))) := by
  refine okD F sc_is_row_of rfl rfl fun cdv A out s H E hg hr => ?_
  exact (dss_cons (ds_if (PW.pt (dw_or (dt_not (dt_val (de_call (h_is_tuple.go.mono (by decide)) hg hr (by rfl) h_is_tuple.m h_is_tuple.kp h_is_tuple.b (dls_cons (dl_var 1) (dls_cons (dl_of (de_callB call_len g_len (by rfl) m_len b_len (dls_cons (dl_var 0) dls_nil))) (dls_cons (dl_of (de_callB call_len g_len (by rfl) m_len b_len (dls_cons (dl_var 0) dls_nil))) dls_nil)))))) (dw_or1 (dt_not (dt_val (de_callB (cr_all rfl) g_all (by rfl) m_all b_all (dls_cons (dl_of (PE.ofF (df_comp rfl sc_is_row_of.nd (di_seq (de_var 1)) (blkOk_by (own := [("row", 3)]) (by kernel_rfl)) (by decide) (fun _ _ _ _ _ => (dg_name (i := 3) sc_is_row_of.nd rfl (by first | exact .inl rfl | exact .inr rfl))) (fun _ _ _ _ _ => dts_nil) (fun _ _ _ _ _ => (de_call (h_is_tuple.go.mono (by decide)) hg hr (by rfl) h_is_tuple.m h_is_tuple.kp h_is_tuple.b (dls_cons (dl_var 3) (dls_cons (dl_of (de_globI (by rfl) c_PAIR)) (dls_cons (dl_of (de_globI (by rfl) c_PAIR)) dls_nil)))))))) dls_nil)))))))
    (dss_one (ds_ret de_bl))
    dss_nil)
    (dss_cons (ds_for PassesOwn.never rfl (di_zipM (by rfl) m_zip (da_cons (de_var 0) (da_cons (de_var 1) da_nil))) (dg_tup rfl (dgs_cons (dg_name (i := 2) sc_is_row_of.nd rfl (by first | exact .inl rfl | exact .inr rfl)) (dgs_cons (dg_name (i := 3) sc_is_row_of.nd rfl (by first | exact .inl rfl | exact .inr rfl)) dgs_nil)))
    (dss_one (ds_if (PW.pt (dw_or (dt_not (dt_val (de_call (h_is_same.go.mono (by decide)) hg hr (by rfl) h_is_same.m h_is_same.kp h_is_same.b (dls_cons (dl_of (de_ix (ix_A (u1 hr)) g_ix (dl_var 3) (dl_of de_int) (fun _ _ => rfl))) (dls_cons (dl_var 2) dls_nil))))) (dw_or1 (dt_not (dt_val (de_call (h_is_beats.go.mono (by decide)) hg hr (by rfl) h_is_beats.m h_is_beats.kp h_is_beats.b (dls_cons (dl_of (de_ix (ix_A (u1 hr)) g_ix (dl_var 3) (dl_of de_int) (fun _ _ => rfl))) dls_nil)))))))
    (dss_one (ds_ret de_bl))
    dss_nil)))
    (dss_one (ds_ret de_bl))))
def N_is_row_of : Fn := runD [false, false] 2 (f_is_row_of N_is_beats N_is_same N_is_tuple)
abbrev s_is_forced : Stmt := topS 37
theorem sc_is_forced : FnScope ["known", "number", "behind", "state"] ["known", "number", "behind"] (defScope s_is_forced) := ⟨rfl, rfl, rfl, by decide +kernel, rfl, by decide +kernel, by decide +kernel⟩
def f_is_forced  : FS := (fRet (fB gAny (flCons (fLd (fComp (fiSeq (fVar 2)) (setE 3) fYes (feOr (fOp2 gIs (fLv 3) (fLd (fC .non))) (feAnd (fOp2 gIsNot (fLd (fOp2 gIx (fLv 0) (fLv 3))) (fLd (fC .non))) (fOp2 gLt (fLd (fOp2 gIx (fLv 0) (fLv 3))) (fLv 1)))) [3])) flNil)))
theorem w_is_forced {fa : Addr} {fd : FuncData} (F : Fun K "is_forced" "is_forced" s_is_forced fa fd) (m_any : mg "any" = none) : FnG P w K mg base CX0 1 fa fd ["known", "number", "behind"] (spD K [false, false, false] (runD [false, false, false] 1 (f_is_forced))) := by
  refine okD F sc_is_forced rfl rfl fun cdv A out s H E hg hr => ?_
  exact (dss_one (ds_ret (de_callB (cr_any rfl) g_any (by rfl) m_any b_any (dls_cons (dl_of (PE.ofF (df_comp rfl sc_is_forced.nd (di_seq (de_var 2)) (blkOk_by (own := [("state", 3)]) (by kernel_rfl)) (by decide) (fun _ _ _ _ _ => (dg_name (i := 3) sc_is_forced.nd rfl (by first | exact .inl rfl | exact .inr rfl))) (fun _ _ _ _ _ => dts_nil) (fun _ _ _ _ _ => (de_or (de_cmp op_isA g_is (dl_var 3) (dl_of de_non) (nomark _)) (de_one (de_and (de_cmp op_isNotA g_isNot (dl_of (de_ix (ix_A (u1 hr)) g_ix (dl_var 0) (dl_var 3) (fun _ _ => rfl))) (dl_of de_non) (nomark _)) (de_one (de_cmp op_lt g_cmp (dl_of (de_ix (ix_A (u1 hr)) g_ix (dl_var 0) (dl_var 3) (fun _ _ => rfl))) (dl_var 1) (nomark _)))))))))) dls_nil))))
def N_is_forced : Fn := runD [false, false, false] 1 (f_is_forced)
abbrev s_shows_clashes : Stmt := topS 38
theorem sc_shows_clashes : FnScope ["balls", "most", "slip", "value", "states", "known", "state", "number", "some", "behind"] ["balls", "most", "slip", "value"] (defScope s_shows_clashes) := ⟨rfl, rfl, rfl, by decide +kernel, rfl, by decide +kernel, by decide +kernel⟩
def f_shows_clashes (n_all_states : Fn) (n_can_clash : Fn) (n_check_lot : Fn) (n_is_forced : Fn) (n_is_row_of : Fn) (n_options : Fn) : FS := (fSeq (fDrop (fCall [false, false, false] n_check_lot (flCons (fLv 0) (flCons (fLv 1) (flCons (fLv 2) flNil)))))
    (fSeq (fSet 4 (fCall [false, false] n_all_states (flCons (fLv 0) (flCons (fLv 1) flNil))))
    (fSeq (fIf (ftNot (fTest (fCall [false, false] n_is_row_of (flCons (fLv 4) (flCons (fLv 3) flNil)))))
    (fRet (fC (.bl false)))
    fSkip)
    (fSeq (fSet 5 (fB gDict (flCons (fLv 3) flNil)))
    (fSeq (fFor (fiItems 5) (fgTup (fgCons (setE 6) (fgCons (setE 7) fgNil)) 2)
    (fSeq (fSet 8 (fCall [false, false, false] n_options (flCons (fLv 6) (flCons (fLv 1) (flCons (fLv 2) flNil)))))
    (fIf (fTest (fOp2 gIs (fLv 7) (fLd (fC .non))))
    (fIf (fTest (fB gAll (flCons (fLd (fComp (fiSeq (fVar 8)) (setE 9) fYes (fCall [false, false] n_can_clash (flCons (fLv 5) (flCons (fLv 9) flNil))) [9])) flNil)))
    (fRet (fC (.bl false)))
    fSkip)
    (fIf (ftNot (fTest (fB gAll (flCons (fLd (fComp (fiSeq (fVar 8)) (setE 9) fYes (fCall [false, false, false] n_is_forced (flCons (fLv 5) (flCons (fLv 7) (flCons (fLv 9) flNil)))) [9])) flNil))))
    (fRet (fC (.bl false)))
    fSkip))))
    (fRet (fC (.bl true))))))))
theorem w_shows_clashes {fa : Addr} {fd : FuncData} (F : Fun K "shows_clashes" "shows_clashes" s_shows_clashes fa fd) {a_all_states : Addr} {d_all_states : FuncData} {n_all_states : Fn} (h_all_states : Has P w K mg base 1 "all_states" ["many", "most"] [false, false] n_all_states a_all_states d_all_states) {a_can_clash : Addr} {d_can_clash : FuncData} {n_can_clash : Fn} (h_can_clash : Has P w K mg base 1 "can_clash" ["found", "behind"] [false, false] n_can_clash a_can_clash d_can_clash) {a_check_lot : Addr} {d_check_lot : FuncData} {n_check_lot : Fn} (h_check_lot : Has P w K mg base 4 "check_lot" ["balls", "most", "slip"] [false, false, false] n_check_lot a_check_lot d_check_lot) {a_is_forced : Addr} {d_is_forced : FuncData} {n_is_forced : Fn} (h_is_forced : Has P w K mg base 1 "is_forced" ["known", "number", "behind"] [false, false, false] n_is_forced a_is_forced d_is_forced) {a_is_row_of : Addr} {d_is_row_of : FuncData} {n_is_row_of : Fn} (h_is_row_of : Has P w K mg base 4 "is_row_of" ["states", "value"] [false, false] n_is_row_of a_is_row_of d_is_row_of) {a_options : Addr} {d_options : FuncData} {n_options : Fn} (h_options : Has P w K mg base 3 "options" ["state", "most", "slip"] [false, false, false] n_options a_options d_options) (m_all : mg "all" = none) (m_dict : mg "dict" = none) : FnG P w K mg base CX0 5 fa fd ["balls", "most", "slip", "value"] (spD K [false, false, false, false] (runD [false, false, false, false] 6 (f_shows_clashes n_all_states n_can_clash n_check_lot n_is_forced n_is_row_of n_options))) := by
  refine okD F sc_shows_clashes rfl rfl fun cdv A out s H E hg hr => ?_
  exact (dss_cons (ds_expr (de_call (h_check_lot.go.mono (by decide)) hg hr (by rfl) h_check_lot.m h_check_lot.kp h_check_lot.b (dls_cons (dl_var 0) (dls_cons (dl_var 1) (dls_cons (dl_var 2) dls_nil)))))
    (dss_cons (ds_set (i := 4) sc_shows_clashes.nd rfl (by first | exact .inl rfl | exact .inr rfl) (de_call (h_all_states.go.mono (by decide)) hg hr (by rfl) h_all_states.m h_all_states.kp h_all_states.b (dls_cons (dl_var 0) (dls_cons (dl_var 1) dls_nil))))
    (dss_cons (ds_if (dt_not (dt_val (de_call (h_is_row_of.go.mono (by decide)) hg hr (by rfl) h_is_row_of.m h_is_row_of.kp h_is_row_of.b (dls_cons (dl_var 4) (dls_cons (dl_var 3) dls_nil)))))
    (dss_one (ds_ret de_bl))
    dss_nil)
    (dss_cons (ds_set (i := 5) sc_shows_clashes.nd rfl (by first | exact .inl rfl | exact .inr rfl) (PE.ofF (df_callT (call_dictT rfl (u66 hr)) g_dict (by rfl) m_dict b_dict (dls_cons (dl_var 3) dls_nil))))
    (dss_cons (ds_forL (fun _ _ => items_dat) PassesOwn.never rfl (di_items 5) (dg_tup rfl (dgs_cons (dg_name (i := 6) sc_shows_clashes.nd rfl (by first | exact .inl rfl | exact .inr rfl)) (dgs_cons (dg_name (i := 7) sc_shows_clashes.nd rfl (by first | exact .inl rfl | exact .inr rfl)) dgs_nil)))
    (dss_cons (ds_set (i := 8) sc_shows_clashes.nd rfl (by first | exact .inl rfl | exact .inr rfl) (de_call (h_options.go.mono (by decide)) hg hr (by rfl) h_options.m h_options.kp h_options.b (dls_cons (dl_var 6) (dls_cons (dl_var 1) (dls_cons (dl_var 2) dls_nil)))))
    (dss_one (ds_if (dt_cmp op_isA g_is (dl_var 7) (dl_of de_non) (nomark _))
    (dss_one (ds_if (dt_val (de_callB (cr_all rfl) g_all (by rfl) m_all b_all (dls_cons (dl_of (PE.ofF (df_comp rfl sc_shows_clashes.nd (di_seq (de_var 8)) (blkOk_by (own := [("behind", 9)]) (by kernel_rfl)) (by decide) (fun _ _ _ _ _ => (dg_name (i := 9) sc_shows_clashes.nd rfl (by first | exact .inl rfl | exact .inr rfl))) (fun _ _ _ _ _ => dts_nil) (fun _ _ _ _ _ => (de_call (h_can_clash.go.mono (by decide)) hg hr (by rfl) h_can_clash.m h_can_clash.kp h_can_clash.b (dls_cons (dl_var 5) (dls_cons (dl_var 9) dls_nil))))))) dls_nil)))
    (dss_one (ds_ret de_bl))
    dss_nil))
    (dss_one (ds_if (dt_not (dt_val (de_callB (cr_all rfl) g_all (by rfl) m_all b_all (dls_cons (dl_of (PE.ofF (df_comp rfl sc_shows_clashes.nd (di_seq (de_var 8)) (blkOk_by (own := [("behind", 9)]) (by kernel_rfl)) (by decide) (fun _ _ _ _ _ => (dg_name (i := 9) sc_shows_clashes.nd rfl (by first | exact .inl rfl | exact .inr rfl))) (fun _ _ _ _ _ => dts_nil) (fun _ _ _ _ _ => (de_call (h_is_forced.go.mono (by decide)) hg hr (by rfl) h_is_forced.m h_is_forced.kp h_is_forced.b (dls_cons (dl_var 5) (dls_cons (dl_var 7) (dls_cons (dl_var 9) dls_nil)))))))) dls_nil))))
    (dss_one (ds_ret de_bl))
    dss_nil))))))
    (dss_one (ds_ret de_bl)))))))
def N_shows_clashes : Fn := runD [false, false, false, false] 6 (f_shows_clashes N_all_states N_can_clash N_check_lot N_is_forced N_is_row_of N_options)
abbrev s_steadied : Stmt := topS 39
theorem sc_steadied : FnScope ["balls", "most", "slip", "clash", "known", "state", "found", "lap", "is_moved", "later", "some", "behind", "new"] ["balls", "most", "slip"] (defScope s_steadied) := ⟨rfl, rfl, rfl, by decide +kernel, rfl, by decide +kernel, by decide +kernel⟩
def f_steadied (n_can_clash : Fn) (n_check_lot : Fn) (n_clashes_of : Fn) (n_options : Fn) : FS := (fSeq (fDrop (fCall [false, false, false] n_check_lot (flCons (fLv 0) (flCons (fLv 1) (flCons (fLv 2) flNil)))))
    (fSeq (fSet 3 (fCall [false, false, false] n_clashes_of (flCons (fLv 0) (flCons (fLv 1) (flCons (fLv 2) flNil)))))
    (fSeq (fSetO 4 (fC (.dT [])))
    (fSeq (fFor (fiSeq (fComp (fiKeysV 3) (setE 5) (fTest (fOp2 gIs (fLd (fOp2 gIx (fLv 3) (fLv 5))) (fLd (fC .non)))) (fVar 5) [5])) (setE 5)
    (fAsg (fComp (fiSeq (fCall [false, false, false] n_options (flCons (fLv 5) (flCons (fLv 1) (flCons (fLv 2) flNil))))) (setE 11) (ftNot (fTest (fCall [false, false] n_can_clash (flCons (fLv 3) (flCons (fLv 11) flNil))))) (fVar 11) [11]) (fgSub 4 (fLv 5))))
    (fSeq (fFrz 4 (fPar [6, 7, 8] (fmOwn (fCompQ true (fiKeysV 4) (setE 5) fYes (fVar 5) (fC .non) [5]) (fmVal (fC (.int 0)) (fmVal (fC (.bl true)) fmNil)))))
    (fSeq (fIf (fTest (fOp2 gIn (fLd (fTupRg (fRg1 (fVar 0)))) (fLv 6)))
    (fAsg (fC (.int 0)) (fgSub 6 (fLd (fTupRg (fRg1 (fVar 0))))))
    fSkip)
    (fSeq (fWhile 200 (fTest (fVar 8))
    (fSeq (fPar [7, 8, 9] (fmVal (fOp2 gAdd (fLv 7) (fLd (fC (.int 1)))) (fmVal (fC (.bl false)) (fmOwn (fLst faNil) fmNil))))
    (fSeq (fFrz 4 (fFor (fiItems 4) (fgTup (fgCons (setE 5) (fgCons (setE 10) fgNil)) 2)
    (fIf (ftAnd (fTest (fOp2 gIs (fLd (fOp2 gIx (fLv 6) (fLv 5))) (fLd (fC .non)))) (fTest (fB gAny (flCons (fLd (fComp (fiSeq (fVar 10)) (setE 11) fYes (fB gAll (flCons (fLd (fComp (fiSeq (fVar 11)) (setE 12) fYes (fOp2 gIsNot (fLd (fOp2 gIx (fLv 6) (fLv 12))) (fLd (fC .non))) [12])) flNil)) [11])) flNil))))
    (fDrop (fAppend 9 (faCons (fVar 5) faNil)))
    fSkip)))
    (fFrz 9 (fFor (fiSeq (fVar 9)) (setE 5)
    (fAsg (fTup (faCons (fVar 7) (faCons (fC (.bl true)) faNil))) (fgTup (fgCons (fgSub 6 (fLv 5)) (fgCons (setE 8) fgNil)) 2)))))))
    (fRet (fB gTuple (flCons (fLd (fComp (fiSeq (fB gSortD (flCons (fLv 6) flNil))) (setE 5) fYes (fTup (faCons (fVar 5) (faCons (fOp2 gIx (fLv 6) (fLv 5)) faNil))) [5])) flNil))))))))))
theorem w_steadied {fa : Addr} {fd : FuncData} (F : Fun K "steadied" "steadied" s_steadied fa fd) {a_can_clash : Addr} {d_can_clash : FuncData} {n_can_clash : Fn} (h_can_clash : Has P w K mg base 1 "can_clash" ["found", "behind"] [false, false] n_can_clash a_can_clash d_can_clash) {a_check_lot : Addr} {d_check_lot : FuncData} {n_check_lot : Fn} (h_check_lot : Has P w K mg base 4 "check_lot" ["balls", "most", "slip"] [false, false, false] n_check_lot a_check_lot d_check_lot) {a_clashes_of : Addr} {d_clashes_of : FuncData} {n_clashes_of : Fn} (h_clashes_of : Has P w K mg base 4 "clashes_of" ["balls", "most", "slip"] [false, false, false] n_clashes_of a_clashes_of d_clashes_of) {a_options : Addr} {d_options : FuncData} {n_options : Fn} (h_options : Has P w K mg base 3 "options" ["state", "most", "slip"] [false, false, false] n_options a_options d_options) (m_all : mg "all" = none) (m_any : mg "any" = none) (m_range : mg "range" = none) (m_sorted : mg "sorted" = none) (m_tuple : mg "tuple" = none) : FnG P w K mg base CX0 5 fa fd ["balls", "most", "slip"] (spD K [false, false, false] (runD [false, false, false] 10 (f_steadied n_can_clash n_check_lot n_clashes_of n_options))) := by
  refine okD F sc_steadied rfl rfl fun cdv A out s H E hg hr => ?_
  exact (dss_cons (ds_expr (de_call (h_check_lot.go.mono (by decide)) hg hr (by rfl) h_check_lot.m h_check_lot.kp h_check_lot.b (dls_cons (dl_var 0) (dls_cons (dl_var 1) (dls_cons (dl_var 2) dls_nil)))))
    (dss_cons (ds_set (i := 3) sc_steadied.nd rfl (by first | exact .inl rfl | exact .inr rfl) (de_call (h_clashes_of.go.mono (by decide)) hg hr (by rfl) h_clashes_of.m h_clashes_of.kp h_clashes_of.b (dls_cons (dl_var 0) (dls_cons (dl_var 1) (dls_cons (dl_var 2) dls_nil)))))
    (dss_cons (ds_setO (i := 4) sc_steadied.nd rfl (by first | exact .inl rfl | exact .inr rfl) df_newT)
    (dss_cons (ds_for PassesOwn.never rfl (di_seq (PE.ofF (df_compL (fun _ _ => keysV_dat) rfl sc_steadied.nd (di_keysV 3) (blkOk_by (own := [("state", 5)]) (by kernel_rfl)) (by decide) (fun _ _ _ _ _ => (dg_name (i := 5) sc_steadied.nd rfl (by first | exact .inl rfl | exact .inr rfl))) (fun _ _ _ _ _ => (dts_one (dt_cmp op_isA g_is (dl_of (de_ix (ix_A (u1 hr)) g_ix (dl_var 3) (dl_var 5) (fun _ _ => rfl))) (dl_of de_non) (nomark _)))) (fun _ _ _ _ _ => (de_var 5))))) (dg_name (i := 5) sc_steadied.nd rfl (by first | exact .inl rfl | exact .inr rfl))
    (dss_one (ds_asg (PE.ofF (df_comp rfl sc_steadied.nd (di_seq (de_call (h_options.go.mono (by decide)) hg hr (by rfl) h_options.m h_options.kp h_options.b (dls_cons (dl_var 5) (dls_cons (dl_var 1) (dls_cons (dl_var 2) dls_nil))))) (blkOk_by (own := [("behind", 11)]) (by kernel_rfl)) (by decide) (fun _ _ _ _ _ => (dg_name (i := 11) sc_steadied.nd rfl (by first | exact .inl rfl | exact .inr rfl))) (fun _ _ _ _ _ => (dts_one (dt_not (dt_val (de_call (h_can_clash.go.mono (by decide)) hg hr (by rfl) h_can_clash.m h_can_clash.kp h_can_clash.b (dls_cons (dl_var 3) (dls_cons (dl_var 11) dls_nil))))))) (fun _ _ _ _ _ => (de_var 11)))) (dg_sub (i := 4) (u1 hr) (dl_var 5)))))
    (dss_cons (ds_frz 4 (ds_parU3 (i := 6) (j := 7) (l := 8) rfl sc_steadied.nd rfl rfl rfl (by first | exact .inl rfl | exact .inr rfl) (by first | exact .inl rfl | exact .inr rfl) (by first | exact .inl rfl | exact .inr rfl) (dm_own (df_dcompL true (fun _ _ => keysV_dat) (u64 hr) rfl sc_steadied.nd (di_keysV 4) (blkOk_by (own := [("state", 5)]) (by kernel_rfl)) (by decide) (fun _ _ _ _ _ => (dg_name (i := 5) sc_steadied.nd rfl (by first | exact .inl rfl | exact .inr rfl))) (fun _ _ _ _ _ => dts_nil) (fun _ _ _ _ _ => (de_var 5)) (fun _ _ _ _ _ => de_non)) (dm_val de_int (dm_val de_bl dm_nil)))))
    (dss_cons (ds_if (dt_cmp (op_inA (u65 hr)) g_in (dl_of (de_tupRg rfl (by rfl) m_tuple (drg_1 (by rfl) m_range (de_var 0)))) (dl_var 6) (by with_unfolding_all rfl))
    (dss_one (ds_asg de_int (dg_sub (i := 6) (u1 hr) (dl_of (de_tupRg rfl (by rfl) m_tuple (drg_1 (by rfl) m_range (de_var 0)))))))
    dss_nil)
    (dss_cons (ds_while 200 PassesOwn.never (dt_val (de_var 8))
    (dss_cons (ds_par3 (i := 7) (j := 8) (l := 9) rfl sc_steadied.nd rfl rfl rfl (by decide) (by decide) (by decide) rfl rfl rfl (dm_val (de_bin op_addA g_add (dl_var 7) (dl_of de_int)) (dm_val de_bl (dm_own (df_lst da_nil) dm_nil))) (by rfl))
    (dss_cons (ds_frz 4 (ds_forL (fun _ _ => items_dat) PassesOwn.never rfl (di_items 4) (dg_tup rfl (dgs_cons (dg_name (i := 5) sc_steadied.nd rfl (by first | exact .inl rfl | exact .inr rfl)) (dgs_cons (dg_name (i := 10) sc_steadied.nd rfl (by first | exact .inl rfl | exact .inr rfl)) dgs_nil)))
    (dss_one (ds_if (PW.pt (dw_and (dt_cmp op_isA g_is (dl_of (de_ix (ix_A (u1 hr)) g_ix (dl_var 6) (dl_var 5) (fun _ _ => rfl))) (dl_of de_non) (nomark _)) (dw_and1 (dt_val (de_callB (cr_any rfl) g_any (by rfl) m_any b_any (dls_cons (dl_of (PE.ofF (df_comp rfl sc_steadied.nd (di_seq (de_var 10)) (blkOk_by (own := [("behind", 11)]) (by kernel_rfl)) (by decide) (fun _ _ _ _ _ => (dg_name (i := 11) sc_steadied.nd rfl (by first | exact .inl rfl | exact .inr rfl))) (fun _ _ _ _ _ => dts_nil) (fun _ _ _ _ _ => (de_callB (cr_all rfl) g_all (by rfl) m_all b_all (dls_cons (dl_of (PE.ofF (df_comp rfl sc_steadied.nd (di_seq (de_var 11)) (blkOk_by (own := [("new", 12)]) (by kernel_rfl)) (by decide) (fun _ _ _ _ _ => (dg_name (i := 12) sc_steadied.nd rfl (by first | exact .inl rfl | exact .inr rfl))) (fun _ _ _ _ _ => dts_nil) (fun _ _ _ _ _ => (de_cmp op_isNotA g_isNot (dl_of (de_ix (ix_A (u1 hr)) g_ix (dl_var 6) (dl_var 12) (fun _ _ => rfl))) (dl_of de_non) (nomark _)))))) dls_nil)))))) dls_nil))))))
    (dss_one (ds_expr (de_append (pe_bm PySem.F.plainAttrs_list PySem.F.slot_list_append PySem.F.type_list_append mt_append (pv 9) (da_cons (de_var 5) da_nil)))))
    dss_nil))))
    (dss_one (ds_frz 9 (ds_for PassesOwn.never rfl (di_seq (de_var 9)) (dg_name (i := 5) sc_steadied.nd rfl (by first | exact .inl rfl | exact .inr rfl))
    (dss_one (ds_asg (de_tup (da_cons (de_var 7) (da_cons de_bl da_nil))) (dg_tup rfl (dgs_cons (dg_sub (i := 6) (u1 hr) (dl_var 5)) (dgs_cons (dg_name (i := 8) sc_steadied.nd rfl (by first | exact .inl rfl | exact .inr rfl)) dgs_nil)))))))))))
    (dss_one (ds_ret (de_callT call_tuple_of g_tuple (by rfl) m_tuple b_tuple (dls_cons (dl_of (PE.ofF (df_comp rfl sc_steadied.nd (di_seq (PE.ofF (df_sortD rfl (by rfl) m_sorted (dls_cons (dl_var 6) dls_nil)))) (blkOk_by (own := [("state", 5)]) (by kernel_rfl)) (by decide) (fun _ _ _ _ _ => (dg_name (i := 5) sc_steadied.nd rfl (by first | exact .inl rfl | exact .inr rfl))) (fun _ _ _ _ _ => dts_nil) (fun _ _ _ _ _ => (de_tup (da_cons (de_var 5) (da_cons (de_ix (ix_A (u1 hr)) g_ix (dl_var 6) (dl_var 5) (fun _ _ => rfl)) da_nil))))))) dls_nil)))))))))))
def N_steadied : Fn := runD [false, false, false] 10 (f_steadied N_can_clash N_check_lot N_clashes_of N_options)
abbrev s__law_pot : Stmt := topS 41
theorem sc__law_pot : FnScope ["script", "place", "cell", "own", "small"] ["script", "place"] (defScope s__law_pot) := ⟨rfl, rfl, rfl, by decide +kernel, rfl, by decide +kernel, by decide +kernel⟩
def f__law_pot  : FS := (fSeq (fSet 2 (feIf (fTest (fOp2 gLt (fLv 1) (fLd (fB gLen (flCons (fLv 0) flNil))))) (fOp2 gIx (fLv 0) (fLv 1)) (fOp2 gAdd (fLd (fOp2 gAdd (fLd (fOp2 gMod (fLd (fB gSum (flCons (fLd (fSl (fLv 0) foNone (foSome (fC (.int 1))))) flNil))) (fLd (fC (.int 1000003))))) (fLd (fOp2 gMul (fLd (fC (.int 4735))) (fLv 1))))) (fLd (fC (.int 438))))))
    (fSeq (fSet 3 (fOp2 gMul (fLd (fOp2 gMod (fLd (fB gInt (flCons (fLd (fB gAbs (flCons (fLv 2) flNil))) flNil))) (fLd (fOp2 gPow (fLd (fOp2 gPow (fLd (fC (.int 10))) (fLd (fC (.int 60))))) (fLd (fC (.int 5))))))) (fLd (fB gInt (flCons (fLd (fOp2 gGe (fLd (fB gAbs (flCons (fLv 2) flNil))) (fLd (fOp2 gPow (fLd (fC (.int 10))) (fLd (fC (.int 18))))))) flNil)))))
    (fSeq (fSet 4 (fOp2 gMod (fLd (fB gInt (flCons (fLv 2) flNil))) (fLd (fC (.int 2305843009213693951)))))
    (fRetF (fLst (faCons (fVar 3) (faCons (fOp2 gMod (fLd (fB gInt (flCons (fLd (fOp2 gAdd (fLd (fOp2 gAdd (fLd (fOp2 gMul (fLv 4) (fLd (fC (.int 92381))))) (fLd (fOp2 gMul (fLd (fOp2 gMul (fLd (fC (.int 9151))) (fLv 1))) (fLv 1))))) (fLd (fC (.int 845))))) flNil))) (fLd (fC (.int 2305843009213693921)))) (faCons (fC (.int 0)) faNil))))))))
theorem w__law_pot {fa : Addr} {fd : FuncData} (F : Fun K "_law_pot" "_law_pot" s__law_pot fa fd) (m_abs : mg "abs" = none) (m_int : mg "int" = none) (m_len : mg "len" = none) (m_sum : mg "sum" = none) : FnG P w K mg base CX0 1 fa fd ["script", "place"] (spD K [false, false] (runD [false, false] 3 (f__law_pot))) := by
  refine okD F sc__law_pot rfl rfl fun cdv A out s H E hg hr => ?_
  exact (dss_cons (ds_set (i := 2) sc__law_pot.nd rfl (by first | exact .inl rfl | exact .inr rfl) (de_if (dt_cmp op_lt g_cmp (dl_var 1) (dl_of (de_callB call_len g_len (by rfl) m_len b_len (dls_cons (dl_var 0) dls_nil))) (nomark _)) (de_ix (ix_A (u1 hr)) g_ix (dl_var 0) (dl_var 1) (fun _ _ => rfl)) (de_bin op_addA g_add (dl_of (de_bin op_addA g_add (dl_of (de_bin op_modN g_mod (dl_of (de_callB (cr_sum rfl) g_sum (by rfl) m_sum b_sum (dls_cons (dl_of (de_slice (dl_var 0) dpo_none (dpo_some de_int))) dls_nil))) (dl_of de_int))) (dl_of (de_bin op_mulA g_mul (dl_of de_int) (dl_var 1))))) (dl_of de_int))))
    (dss_cons (ds_set (i := 3) sc__law_pot.nd rfl (by first | exact .inl rfl | exact .inr rfl) (de_bin op_mulA g_mul (dl_of (de_bin op_modN g_mod (dl_of (de_callT call_int1 g_int (by rfl) m_int b_int (dls_cons (dl_of (de_callB call_abs g_abs (by rfl) m_abs b_abs (dls_cons (dl_var 2) dls_nil))) dls_nil))) (dl_of (de_bin op_powW g_pow (dl_of (de_bin op_powW g_pow (dl_of de_int) (dl_of de_int))) (dl_of de_int))))) (dl_of (de_callT call_int1 g_int (by rfl) m_int b_int (dls_cons (dl_of (de_cmp op_ge g_cmp (dl_of (de_callB call_abs g_abs (by rfl) m_abs b_abs (dls_cons (dl_var 2) dls_nil))) (dl_of (de_bin op_powW g_pow (dl_of de_int) (dl_of de_int))) (nomark _))) dls_nil)))))
    (dss_cons (ds_set (i := 4) sc__law_pot.nd rfl (by first | exact .inl rfl | exact .inr rfl) (de_bin op_modN g_mod (dl_of (de_callT call_int1 g_int (by rfl) m_int b_int (dls_cons (dl_var 2) dls_nil))) (dl_of de_int)))
    (dss_one (ds_retF (df_lst (da_cons (de_var 3) (da_cons (de_bin op_modN g_mod (dl_of (de_callT call_int1 g_int (by rfl) m_int b_int (dls_cons (dl_of (de_bin op_addA g_add (dl_of (de_bin op_addA g_add (dl_of (de_bin op_mulA g_mul (dl_var 4) (dl_of de_int))) (dl_of (de_bin op_mulA g_mul (dl_of (de_bin op_mulA g_mul (dl_of de_int) (dl_var 1))) (dl_var 1))))) (dl_of de_int))) dls_nil))) (dl_of de_int)) (da_cons de_int da_nil)))))))))
def N__law_pot : Fn := runD [false, false] 3 (f__law_pot)
abbrev s__law_take : Stmt := topS 42
theorem sc__law_take : FnScope ["pot", "upto", "digit", "prime", "blend"] ["pot", "upto"] (defScope s__law_take) := ⟨rfl, rfl, rfl, by decide +kernel, rfl, by decide +kernel, by decide +kernel⟩
def f__law_take  : FS := (fSeq (fIf (fTest (fOp2 gGt (fLd (fOp2 gIx (fLv 0) (fLd (fC (.int 0))))) (fLd (fC (.int 0)))))
    (fSeq (fSet 2 (fOp2 gMod (fLd (fB gInt (flCons (fLd (fOp2 gIx (fLv 0) (fLd (fC (.int 0))))) flNil))) (fLv 1)))
    (fSeq (fAsg (fOp2 gFdiv (fLd (fOp2 gIx (fLv 0) (fLd (fC (.int 0))))) (fLv 1)) (fgSub 0 (fLd (fC (.int 0)))))
    (fRet (fVar 2))))
    fSkip)
    (fSeq (fAsg (fOp2 gAdd (fLd (fOp2 gIx (fLv 0) (fLd (fC (.int 2))))) (fLd (fC (.int 1)))) (fgSub 0 (fLd (fC (.int 2)))))
    (fSeq (fSet 3 (fOp2 gIx (fLd (fLst (faCons (fC (.int 2147483647)) (faCons (fC (.int 2147483629)) (faCons (fC (.int 2147483587)) (faCons (fC (.int 2147483579)) (faCons (fC (.int 2147483563)) faNil))))))) (fLd (fOp2 gMod (fLd (fB gInt (flCons (fLd (fOp2 gIx (fLv 0) (fLd (fC (.int 2))))) flNil))) (fLd (fC (.int 5)))))))
    (fSeq (fSet 4 (fOp2 gMod (fLd (fB gInt (flCons (fLd (fOp2 gPow (fLd (fB gInt (flCons (fLd (fOp2 gAdd (fLd (fOp2 gAdd (fLd (fOp2 gIx (fLv 0) (fLd (fC (.int 1))))) (fLd (fOp2 gMul (fLd (fOp2 gMul (fLd (fC (.int 89478))) (fLd (fOp2 gIx (fLv 0) (fLd (fC (.int 2))))))) (fLd (fOp2 gIx (fLv 0) (fLd (fC (.int 2))))))))) (fLd (fC (.int 645))))) flNil))) (fLd (fC (.int 3))))) flNil))) (fLv 3)))
    (fSeq (fSet 4 (fOp2 gMod (fLd (fB gInt (flCons (fLd (fOp2 gMul (fLv 4) (fLd (fOp2 gAdd (fLd (fOp2 gMod (fLd (fB gInt (flCons (fLv 4) flNil))) (fLd (fC (.int 10259))))) (fLd (fOp2 gMul (fLd (fC (.int 122))) (fLd (fOp2 gIx (fLv 0) (fLd (fC (.int 2))))))))))) flNil))) (fLd (fC (.int 2305843009213693907)))))
    (fRet (fOp2 gMod (fLd (fB gInt (flCons (fLd (fOp2 gFdiv (fLv 4) (fLd (fC (.int 152))))) flNil))) (fLv 1))))))))
theorem w__law_take {fa : Addr} {fd : FuncData} (F : Fun K "_law_take" "_law_take" s__law_take fa fd) (m_int : mg "int" = none) : FnG P w K mg base CX0 1 fa fd ["pot", "upto"] (spD K [true, false] (runD [true, false] 3 (f__law_take))) := by
  refine okD F sc__law_take rfl rfl fun cdv A out s H E hg hr => ?_
  exact (dss_cons (ds_if (dt_cmp op_gt g_cmp (dl_of (de_ix (ix_A (u1 hr)) g_ix (dl_var 0) (dl_of de_int) (fun _ _ => rfl))) (dl_of de_int) (nomark _))
    (dss_cons (ds_set (i := 2) sc__law_take.nd rfl (by first | exact .inl rfl | exact .inr rfl) (de_bin op_modN g_mod (dl_of (de_callT call_int1 g_int (by rfl) m_int b_int (dls_cons (dl_of (de_ix (ix_A (u1 hr)) g_ix (dl_var 0) (dl_of de_int) (fun _ _ => rfl))) dls_nil))) (dl_var 1)))
    (dss_cons (ds_asg (de_bin op_fdivN g_fdiv (dl_of (de_ix (ix_A (u1 hr)) g_ix (dl_var 0) (dl_of de_int) (fun _ _ => rfl))) (dl_var 1)) (dg_sub (i := 0) (u1 hr) (dl_of de_int)))
    (dss_one (ds_ret (de_var 2)))))
    dss_nil)
    (dss_cons (ds_asg (de_bin op_addA g_add (dl_of (de_ix (ix_A (u1 hr)) g_ix (dl_var 0) (dl_of de_int) (fun _ _ => rfl))) (dl_of de_int)) (dg_sub (i := 0) (u1 hr) (dl_of de_int)))
    (dss_cons (ds_set (i := 3) sc__law_take.nd rfl (by first | exact .inl rfl | exact .inr rfl) (de_ix (ix_A (u1 hr)) g_ix (dl_of (PE.ofF (df_lst (da_cons de_int (da_cons de_int (da_cons de_int (da_cons de_int (da_cons de_int da_nil)))))))) (dl_of (de_bin op_modN g_mod (dl_of (de_callT call_int1 g_int (by rfl) m_int b_int (dls_cons (dl_of (de_ix (ix_A (u1 hr)) g_ix (dl_var 0) (dl_of de_int) (fun _ _ => rfl))) dls_nil))) (dl_of de_int))) (fun _ _ => rfl)))
    (dss_cons (ds_set (i := 4) sc__law_take.nd rfl (by first | exact .inl rfl | exact .inr rfl) (de_bin op_modN g_mod (dl_of (de_callT call_int1 g_int (by rfl) m_int b_int (dls_cons (dl_of (de_bin op_powW g_pow (dl_of (de_callT call_int1 g_int (by rfl) m_int b_int (dls_cons (dl_of (de_bin op_addA g_add (dl_of (de_bin op_addA g_add (dl_of (de_ix (ix_A (u1 hr)) g_ix (dl_var 0) (dl_of de_int) (fun _ _ => rfl))) (dl_of (de_bin op_mulA g_mul (dl_of (de_bin op_mulA g_mul (dl_of de_int) (dl_of (de_ix (ix_A (u1 hr)) g_ix (dl_var 0) (dl_of de_int) (fun _ _ => rfl))))) (dl_of (de_ix (ix_A (u1 hr)) g_ix (dl_var 0) (dl_of de_int) (fun _ _ => rfl))))))) (dl_of de_int))) dls_nil))) (dl_of de_int))) dls_nil))) (dl_var 3)))
    (dss_cons (ds_set (i := 4) sc__law_take.nd rfl (by first | exact .inl rfl | exact .inr rfl) (de_bin op_modN g_mod (dl_of (de_callT call_int1 g_int (by rfl) m_int b_int (dls_cons (dl_of (de_bin op_mulA g_mul (dl_var 4) (dl_of (de_bin op_addA g_add (dl_of (de_bin op_modN g_mod (dl_of (de_callT call_int1 g_int (by rfl) m_int b_int (dls_cons (dl_var 4) dls_nil))) (dl_of de_int))) (dl_of (de_bin op_mulA g_mul (dl_of de_int) (dl_of (de_ix (ix_A (u1 hr)) g_ix (dl_var 0) (dl_of de_int) (fun _ _ => rfl))))))))) dls_nil))) (dl_of de_int)))
    (dss_one (ds_ret (de_bin op_modN g_mod (dl_of (de_callT call_int1 g_int (by rfl) m_int b_int (dls_cons (dl_of (de_bin op_fdivN g_fdiv (dl_var 4) (dl_of de_int))) dls_nil))) (dl_var 1)))))))))
def N__law_take : Fn := runD [true, false] 3 (f__law_take)
abbrev s__law_of : Stmt := topS 43
theorem sc__law_of : FnScope ["pot", "some"] ["pot", "some"] (defScope s__law_of) := ⟨rfl, rfl, rfl, by decide +kernel, rfl, by decide +kernel, by decide +kernel⟩
def f__law_of (n__law_take : Fn) : FS := (fRet (fOp2 gIx (fLv 1) (fLd (fCall [true, false] n__law_take (flCons (fLv 0) (flCons (fLd (fB gLen (flCons (fLv 1) flNil))) flNil))))))
theorem w__law_of {fa : Addr} {fd : FuncData} (F : Fun K "_law_of" "_law_of" s__law_of fa fd) {a__law_take : Addr} {d__law_take : FuncData} {n__law_take : Fn} (h__law_take : Has P w K mg base 1 "_law_take" ["pot", "upto"] [true, false] n__law_take a__law_take d__law_take) (m_len : mg "len" = none) : FnG P w K mg base CX0 2 fa fd ["pot", "some"] (spD K [true, false] (runD [true, false] 0 (f__law_of n__law_take))) := by
  refine okD F sc__law_of rfl rfl fun cdv A out s H E hg hr => ?_
  exact (dss_one (ds_ret (de_ix (ix_A (u1 hr)) g_ix (dl_var 1) (dl_of (de_call (h__law_take.go.mono (by decide)) hg hr (by rfl) h__law_take.m h__law_take.kp h__law_take.b (dls_cons (dl_var 0) (dls_cons (dl_of (de_callB call_len g_len (by rfl) m_len b_len (dls_cons (dl_var 1) dls_nil))) dls_nil)))) (fun _ _ => rfl))))
def N__law_of : Fn := runD [true, false] 0 (f__law_of N__law_take)
abbrev s__law_places : Stmt := topS 44
theorem sc__law_places : FnScope ["script", "most"] ["script", "most"] (defScope s__law_places) := ⟨rfl, rfl, rfl, by decide +kernel, rfl, by decide +kernel, by decide +kernel⟩
def f__law_places  : FS := (fRetF (fLstRg id (fRg1 (fB gMax (flCons (fLd (fC (.int 1))) (flCons (fLd (fB gMin (flCons (fLv 1) (flCons (fLd (fB gLen (flCons (fLv 0) flNil))) flNil)))) flNil))))))
theorem w__law_places {fa : Addr} {fd : FuncData} (F : Fun K "_law_places" "_law_places" s__law_places fa fd) (m_len : mg "len" = none) (m_list : mg "list" = none) (m_max : mg "max" = none) (m_min : mg "min" = none) (m_range : mg "range" = none) : FnG P w K mg base CX0 1 fa fd ["script", "most"] (spD K [false, false] (runD [false, false] 0 (f__law_places))) := by
  refine okD F sc__law_places rfl rfl fun cdv A out s H E hg hr => ?_
  exact (dss_one (ds_retF (df_listRg rfl (by rfl) m_list (drg_1 (by rfl) m_range (de_callB (call_maxA rfl) g_max (by rfl) m_max b_max (dls_cons (dl_of de_int) (dls_cons (dl_of (de_callB (call_minA rfl) g_min (by rfl) m_min b_min (dls_cons (dl_var 1) (dls_cons (dl_of (de_callB call_len g_len (by rfl) m_len b_len (dls_cons (dl_var 0) dls_nil))) dls_nil)))) dls_nil)))))))
def N__law_places : Fn := runD [false, false] 0 (f__law_places)
abbrev s__law_some : Stmt := topS 45
theorem sc__law_some : FnScope ["pot", "pool", "many", "rests", "found", "lap"] ["pot", "pool", "many"] (defScope s__law_some) := ⟨rfl, rfl, rfl, by decide +kernel, rfl, by decide +kernel, by decide +kernel⟩
def f__law_some (n__law_take : Fn) : FS := (fSeq (fPar [3, 4] (fmOwn (fB gList (flCons (fLv 1) flNil)) (fmOwn (fLst faNil) fmNil)))
    (fSeq (fFor (fiRng1 (flCons (fLv 2) flNil)) (setE 5)
    (fDrop (fAppend 4 (faCons (fPopAt 3 (faCons (fCall [true, false] n__law_take (flCons (fLv 0) (flCons (fLd (fB gLen (flCons (fLv 3) flNil))) flNil))) faNil)) faNil))))
    (fRetO 4)))
theorem w__law_some {fa : Addr} {fd : FuncData} (F : Fun K "_law_some" "_law_some" s__law_some fa fd) {a__law_take : Addr} {d__law_take : FuncData} {n__law_take : Fn} (h__law_take : Has P w K mg base 1 "_law_take" ["pot", "upto"] [true, false] n__law_take a__law_take d__law_take) (m_len : mg "len" = none) (m_list : mg "list" = none) (m_range : mg "range" = none) : FnG P w K mg base CX0 2 fa fd ["pot", "pool", "many"] (spD K [true, false, false] (runD [true, false, false] 3 (f__law_some n__law_take))) := by
  refine okD F sc__law_some rfl rfl fun cdv A out s H E hg hr => ?_
  exact (dss_cons (ds_par (i := 3) (j := 4) rfl sc__law_some.nd rfl rfl (by decide) rfl rfl (dm_own (df_callT call_list_of g_list (by rfl) m_list b_list (dls_cons (dl_var 1) dls_nil)) (dm_own (df_lst da_nil) dm_nil)) (by rfl))
    (dss_cons (ds_for PassesOwn.never rfl (di_rng1 (by rfl) m_range (dls_cons (dl_var 2) dls_nil)) (dg_name (i := 5) sc__law_some.nd rfl (by first | exact .inl rfl | exact .inr rfl))
    (dss_one (ds_expr (de_append (pe_bm PySem.F.plainAttrs_list PySem.F.slot_list_append PySem.F.type_list_append mt_append (pv 4) (da_cons (de_popAt (pe_bm PySem.F.plainAttrs_list PySem.F.slot_list_pop PySem.F.type_list_pop mt_popAt (pv 3) (da_cons (de_call (h__law_take.go.mono (by decide)) hg hr (by rfl) h__law_take.m h__law_take.kp h__law_take.b (dls_cons (dl_var 0) (dls_cons (dl_of (de_callB call_len g_len (by rfl) m_len b_len (dls_cons (dl_var 3) dls_nil))) dls_nil))) da_nil))) da_nil))))))
    (dss_one (ds_retO 4))))
def N__law_some : Fn := runD [true, false, false] 3 (f__law_some N__law_take)
abbrev s__law_behind : Stmt := topS 46
theorem sc__law_behind : FnScope ["state", "height", "beat"] ["state", "height"] (defScope s__law_behind) := ⟨rfl, rfl, rfl, by decide +kernel, rfl, by decide +kernel, by decide +kernel⟩
def f__law_behind  : FS := (fSeq (fIf (ftOr (fTest (fOp2 gNe (fLd (fOp2 gIn (fLd (fC (.int 0))) (fLv 0))) (fLd (fOp2 gGt (fLv 1) (fLd (fC (.int 0))))))) (ftAnd (fTest (fOp2 gIn (fLv 1) (fLv 0))) (fTest (fOp2 gGt (fLv 1) (fLd (fC (.int 0)))))))
    (fRet (fC .non))
    fSkip)
    (fRet (fB gTuple (flCons (fLd (fB gSorted (flCons (fLd (fOp2 gAdd (fLd (fComp (fiSeq (fVar 0)) (setE 2) (fTest (fOp2 gGt (fLv 2) (fLd (fC (.int 0))))) (fOp2 gSub (fLv 2) (fLd (fC (.int 1)))) [2])) (fLd (feIf (fTest (fOp2 gGt (fLv 1) (fLd (fC (.int 0))))) (fLst (faCons (fOp2 gSub (fLv 1) (fLd (fC (.int 1)))) faNil)) (fLst faNil))))) flNil))) flNil))))
theorem w__law_behind {fa : Addr} {fd : FuncData} (F : Fun K "_law_behind" "_law_behind" s__law_behind fa fd) (m_sorted : mg "sorted" = none) (m_tuple : mg "tuple" = none) : FnG P w K mg base CX0 1 fa fd ["state", "height"] (spD K [false, false] (runD [false, false] 1 (f__law_behind))) := by
  refine okD F sc__law_behind rfl rfl fun cdv A out s H E hg hr => ?_
  exact (dss_cons (ds_if (PW.pt (dw_or (dt_cmp (op_neA (u64 hr)) g_ne (dl_of (de_cmp (op_inA (u65 hr)) g_in (dl_of de_int) (dl_var 0) (by with_unfolding_all rfl))) (dl_of (de_cmp op_gt g_cmp (dl_var 1) (dl_of de_int) (nomark _))) (nomark _)) (dw_or1 (PW.pt (dw_and (dt_cmp (op_inA (u65 hr)) g_in (dl_var 1) (dl_var 0) (by with_unfolding_all rfl)) (dw_and1 (dt_cmp op_gt g_cmp (dl_var 1) (dl_of de_int) (nomark _))))))))
    (dss_one (ds_ret de_non))
    dss_nil)
    (dss_one (ds_ret (de_callT call_tuple_of g_tuple (by rfl) m_tuple b_tuple (dls_cons (dl_of (PE.ofF (df_callB call_sortedA g_sorted (by rfl) m_sorted b_sorted (dls_cons (dl_of (de_bin op_addA g_add (dl_of (PE.ofF (df_comp rfl sc__law_behind.nd (di_seq (de_var 0)) (blkOk_by (own := [("beat", 2)]) (by kernel_rfl)) (by decide) (fun _ _ _ _ _ => (dg_name (i := 2) sc__law_behind.nd rfl (by first | exact .inl rfl | exact .inr rfl))) (fun _ _ _ _ _ => (dts_one (dt_cmp op_gt g_cmp (dl_var 2) (dl_of de_int) (nomark _)))) (fun _ _ _ _ _ => (de_bin op_sub g_sub (dl_var 2) (dl_of de_int)))))) (dl_of (de_if (dt_cmp op_gt g_cmp (dl_var 1) (dl_of de_int) (nomark _)) (PE.ofF (df_lst (da_cons (de_bin op_sub g_sub (dl_var 1) (dl_of de_int)) da_nil))) (PE.ofF (df_lst da_nil)))))) dls_nil)))) dls_nil)))))
def N__law_behind : Fn := runD [false, false] 1 (f__law_behind)
abbrev s__law_can : Stmt := topS 47
theorem sc__law_can : FnScope ["state", "most", "height"] ["state", "most"] (defScope s__law_can) := ⟨rfl, rfl, rfl, by decide +kernel, rfl, by decide +kernel, by decide +kernel⟩
def f__law_can (n__law_behind : Fn) : FS := (fRetF (fComp (fiRng1 (flCons (fLd (fOp2 gAdd (fLv 1) (fLd (fC (.int 1))))) flNil)) (setE 2) (fTest (fOp2 gIsNot (fLd (fCall [false, false] n__law_behind (flCons (fLv 0) (flCons (fLv 2) flNil)))) (fLd (fC .non)))) (fVar 2) [2]))
theorem w__law_can {fa : Addr} {fd : FuncData} (F : Fun K "_law_can" "_law_can" s__law_can fa fd) {a__law_behind : Addr} {d__law_behind : FuncData} {n__law_behind : Fn} (h__law_behind : Has P w K mg base 1 "_law_behind" ["state", "height"] [false, false] n__law_behind a__law_behind d__law_behind) (m_range : mg "range" = none) : FnG P w K mg base CX0 2 fa fd ["state", "most"] (spD K [false, false] (runD [false, false] 1 (f__law_can n__law_behind))) := by
  refine okD F sc__law_can rfl rfl fun cdv A out s H E hg hr => ?_
  exact (dss_one (ds_retF (df_comp rfl sc__law_can.nd (di_rng1 (by rfl) m_range (dls_cons (dl_of (de_bin op_addA g_add (dl_var 1) (dl_of de_int))) dls_nil)) (blkOk_by (own := [("height", 2)]) (by kernel_rfl)) (by decide) (fun _ _ _ _ _ => (dg_name (i := 2) sc__law_can.nd rfl (by first | exact .inl rfl | exact .inr rfl))) (fun _ _ _ _ _ => (dts_one (dt_cmp op_isNotA g_isNot (dl_of (de_call (h__law_behind.go.mono (by decide)) hg hr (by rfl) h__law_behind.m h__law_behind.kp h__law_behind.b (dls_cons (dl_var 0) (dls_cons (dl_var 2) dls_nil)))) (dl_of de_non) (nomark _)))) (fun _ _ _ _ _ => (de_var 2)))))
def N__law_can : Fn := runD [false, false] 1 (f__law_can N__law_behind)
abbrev s__law_states : Stmt := topS 48
theorem sc__law_states : FnScope ["many", "most", "found", "lap", "longer", "state", "beat"] ["many", "most"] (defScope s__law_states) := ⟨rfl, rfl, rfl, by decide +kernel, rfl, by decide +kernel, by decide +kernel⟩
def f__law_states  : FS := (fSeq (fSet 2 (fLst (faCons (fTup faNil) faNil)))
    (fSeq (fFor (fiRng1 (flCons (fLv 0) flNil)) (setE 3)
    (fSeq (fSetO 4 (fLst faNil))
    (fSeq (fFor (fiSeq (fVar 2)) (setE 5)
    (fDrop (fExtend 4 (faCons (fComp (fiRng2 (flCons (fLd (feIf (fTest (fOp2 gNe (fLv 5) (fLd (fTup faNil)))) (fOp2 gAdd (fLd (fOp2 gIx (fLv 5) (fLd (fNeg (fC (.int 1)))))) (fLd (fC (.int 1)))) (fC (.int 0)))) (flCons (fLv 1) flNil))) (setE 6) fYes (fOp2 gAdd (fLv 5) (fLd (fTup (faCons (fVar 6) faNil)))) [6]) faNil))))
    (fFrz 4 (fSet 2 (fVar 4))))))
    (fRet (fVar 2))))
theorem w__law_states {fa : Addr} {fd : FuncData} (F : Fun K "_law_states" "_law_states" s__law_states fa fd) (m_range : mg "range" = none) : FnG P w K mg base CX0 1 fa fd ["many", "most"] (spD K [false, false] (runD [false, false] 5 (f__law_states))) := by
  refine okD F sc__law_states rfl rfl fun cdv A out s H E hg hr => ?_
  exact (dss_cons (ds_set (i := 2) sc__law_states.nd rfl (by first | exact .inl rfl | exact .inr rfl) (PE.ofF (df_lst (da_cons (de_tup da_nil) da_nil))))
    (dss_cons (ds_for PassesOwn.never rfl (di_rng1 (by rfl) m_range (dls_cons (dl_var 0) dls_nil)) (dg_name (i := 3) sc__law_states.nd rfl (by first | exact .inl rfl | exact .inr rfl))
    (dss_cons (ds_setO (i := 4) sc__law_states.nd rfl (by first | exact .inl rfl | exact .inr rfl) (df_lst da_nil))
    (dss_cons (ds_for PassesOwn.never rfl (di_seq (de_var 2)) (dg_name (i := 5) sc__law_states.nd rfl (by first | exact .inl rfl | exact .inr rfl))
    (dss_one (ds_expr (de_extend (pe_bm PySem.F.plainAttrs_list PySem.F.slot_list_extend PySem.F.type_list_extend mt_extend (pv 4) (da_cons (PE.ofF (df_comp rfl sc__law_states.nd (di_rng2 (by rfl) m_range (dls_cons (dl_of (de_if (dt_cmp (op_neA (u64 hr)) g_ne (dl_var 5) (dl_of (de_tup da_nil)) (nomark _)) (de_bin op_addA g_add (dl_of (de_ix (ix_A (u1 hr)) g_ix (dl_var 5) (dl_of (de_neg de_int)) (fun _ _ => rfl))) (dl_of de_int)) de_int)) (dls_cons (dl_var 1) dls_nil))) (blkOk_by (own := [("beat", 6)]) (by kernel_rfl)) (by decide) (fun _ _ _ _ _ => (dg_name (i := 6) sc__law_states.nd rfl (by first | exact .inl rfl | exact .inr rfl))) (fun _ _ _ _ _ => dts_nil) (fun _ _ _ _ _ => (de_bin op_addA g_add (dl_var 5) (dl_of (de_tup (da_cons (de_var 6) da_nil))))))) da_nil))))))
    (dss_one (ds_frz 4 (ds_set (i := 2) sc__law_states.nd rfl (by first | exact .inl rfl | exact .inr rfl) (de_var 4)))))))
    (dss_one (ds_ret (de_var 2)))))
def N__law_states : Fn := runD [false, false] 5 (f__law_states)
abbrev s__law_choose : Stmt := topS 49
theorem sc__law_choose : FnScope ["many", "some", "found", "at"] ["many", "some"] (defScope s__law_choose) := ⟨rfl, rfl, rfl, by decide +kernel, rfl, by decide +kernel, by decide +kernel⟩
def f__law_choose  : FS := (fSeq (fIf (ftNot (ftOf (fChain gLe gLe (fC (.int 0)) (fVar 1) (fVar 0))))
    (fRet (fC (.int 0)))
    fSkip)
    (fSeq (fSet 2 (fC (.int 1)))
    (fSeq (fFor (fiRng1 (flCons (fLv 1) flNil)) (setE 3)
    (fSet 2 (fOp2 gFdiv (fLd (fOp2 gMul (fLv 2) (fLd (fOp2 gSub (fLv 0) (fLv 3))))) (fLd (fOp2 gAdd (fLv 3) (fLd (fC (.int 1))))))))
    (fRet (fVar 2)))))
theorem w__law_choose {fa : Addr} {fd : FuncData} (F : Fun K "_law_choose" "_law_choose" s__law_choose fa fd) (m_range : mg "range" = none) : FnG P w K mg base CX0 1 fa fd ["many", "some"] (spD K [false, false] (runD [false, false] 2 (f__law_choose))) := by
  refine okD F sc__law_choose rfl rfl fun cdv A out s H E hg hr => ?_
  exact (dss_cons (ds_if (dt_not (dt_chain op_le op_le g_cmp g_cmp de_int (de_var 1) (de_var 0)))
    (dss_one (ds_ret de_int))
    dss_nil)
    (dss_cons (ds_set (i := 2) sc__law_choose.nd rfl (by first | exact .inl rfl | exact .inr rfl) de_int)
    (dss_cons (ds_for PassesOwn.never rfl (di_rng1 (by rfl) m_range (dls_cons (dl_var 1) dls_nil)) (dg_name (i := 3) sc__law_choose.nd rfl (by first | exact .inl rfl | exact .inr rfl))
    (dss_one (ds_set (i := 2) sc__law_choose.nd rfl (by first | exact .inl rfl | exact .inr rfl) (de_bin op_fdivN g_fdiv (dl_of (de_bin op_mulA g_mul (dl_var 2) (dl_of (de_bin op_sub g_sub (dl_var 0) (dl_var 3))))) (dl_of (de_bin op_addA g_add (dl_var 3) (dl_of de_int)))))))
    (dss_one (ds_ret (de_var 2))))))
def N__law_choose : Fn := runD [false, false] 2 (f__law_choose)
abbrev s__law_game : Stmt := topS 50
theorem sc__law_game : FnScope ["many", "most", "slip", "found", "state", "rest", "rows", "height", "slips", "ends", "one", "is_clash", "beat"] ["many", "most", "slip"] (defScope s__law_game) := ⟨rfl, rfl, rfl, by decide +kernel, rfl, by decide +kernel, by decide +kernel⟩
def f__law_game (n__law_can : Fn) (n__law_states : Fn) : FS := (fSeq (fSetO 3 (fC (.dT [])))
    (fSeq (fFor (fiSeq (fCall [false, false] n__law_states (flCons (fLv 0) (flCons (fLv 1) flNil)))) (setE 4)
    (fSeq (fPar [5, 6] (fmVal (fComp (fiSeq (fVar 4)) (setE 12) (fTest (fOp2 gGt (fLv 12) (fLd (fC (.int 0))))) (fOp2 gSub (fLv 12) (fLd (fC (.int 1)))) [12]) (fmOwn (fLst faNil) fmNil)))
    (fSeq (fFor (fiSeq (fCall [false, false] n__law_can (flCons (fLv 4) (flCons (fLv 1) flNil)))) (setE 7)
    (fSeq (fSet 8 (feIf (fTest (fOp2 gEq (fLv 7) (fLd (fC (.int 0))))) (fLst (faCons (fVar 7) faNil)) (fLstRg id (fRg2 (fB gMax (flCons (fLd (fC (.int 1))) (flCons (fLd (fOp2 gSub (fLv 7) (fLv 2))) flNil))) (fOp2 gAdd (fLd (fB gMin (flCons (fLv 1) (flCons (fLd (fOp2 gAdd (fLv 7) (fLv 2))) flNil)))) (fLd (fC (.int 1))))))))
    (fSeq (fSetO 9 (fLst faNil))
    (fSeq (fFor (fiSeq (fVar 8)) (setE 10)
    (fSeq (fSet 11 (feAnd (fOp2 gGt (fLv 10) (fLd (fC (.int 0)))) (fOp2 gIn (fLd (fOp2 gSub (fLv 10) (fLd (fC (.int 1))))) (fLv 5))))
    (fDrop (fAppend 9 (faCons (feIf (fTest (fVar 11)) (fC .non) (fB gTuple (flCons (fLd (fB gSorted (flCons (fLd (fOp2 gAdd (fLv 5) (fLd (feIf (fTest (fOp2 gGt (fLv 10) (fLd (fC (.int 0))))) (fLst (faCons (fOp2 gSub (fLv 10) (fLd (fC (.int 1)))) faNil)) (fLst faNil))))) flNil))) flNil))) faNil)))))
    (fFrz 9 (fDrop (fAppend 6 (faCons (fTup (faCons (fVar 7) (faCons (fVar 9) faNil))) faNil))))))))
    (fFrz 6 (fAsg (fVar 6) (fgSub 3 (fLv 4)))))))
    (fRetO 3)))
theorem w__law_game {fa : Addr} {fd : FuncData} (F : Fun K "_law_game" "_law_game" s__law_game fa fd) {a__law_can : Addr} {d__law_can : FuncData} {n__law_can : Fn} (h__law_can : Has P w K mg base 2 "_law_can" ["state", "most"] [false, false] n__law_can a__law_can d__law_can) {a__law_states : Addr} {d__law_states : FuncData} {n__law_states : Fn} (h__law_states : Has P w K mg base 1 "_law_states" ["many", "most"] [false, false] n__law_states a__law_states d__law_states) (m_list : mg "list" = none) (m_max : mg "max" = none) (m_min : mg "min" = none) (m_range : mg "range" = none) (m_sorted : mg "sorted" = none) (m_tuple : mg "tuple" = none) : FnG P w K mg base CX0 3 fa fd ["many", "most", "slip"] (spD K [false, false, false] (runD [false, false, false] 10 (f__law_game n__law_can n__law_states))) := by
  refine okD F sc__law_game rfl rfl fun cdv A out s H E hg hr => ?_
  exact (dss_cons (ds_setO (i := 3) sc__law_game.nd rfl (by first | exact .inl rfl | exact .inr rfl) df_newT)
    (dss_cons (ds_for PassesOwn.never rfl (di_seq (de_call (h__law_states.go.mono (by decide)) hg hr (by rfl) h__law_states.m h__law_states.kp h__law_states.b (dls_cons (dl_var 0) (dls_cons (dl_var 1) dls_nil)))) (dg_name (i := 4) sc__law_game.nd rfl (by first | exact .inl rfl | exact .inr rfl))
    (dss_cons (ds_par (i := 5) (j := 6) rfl sc__law_game.nd rfl rfl (by decide) rfl rfl (dm_val (PE.ofF (df_comp rfl sc__law_game.nd (di_seq (de_var 4)) (blkOk_by (own := [("beat", 12)]) (by kernel_rfl)) (by decide) (fun _ _ _ _ _ => (dg_name (i := 12) sc__law_game.nd rfl (by first | exact .inl rfl | exact .inr rfl))) (fun _ _ _ _ _ => (dts_one (dt_cmp op_gt g_cmp (dl_var 12) (dl_of de_int) (nomark _)))) (fun _ _ _ _ _ => (de_bin op_sub g_sub (dl_var 12) (dl_of de_int))))) (dm_own (df_lst da_nil) dm_nil)) (by rfl))
    (dss_cons (ds_for PassesOwn.never rfl (di_seq (de_call (h__law_can.go.mono (by decide)) hg hr (by rfl) h__law_can.m h__law_can.kp h__law_can.b (dls_cons (dl_var 4) (dls_cons (dl_var 1) dls_nil)))) (dg_name (i := 7) sc__law_game.nd rfl (by first | exact .inl rfl | exact .inr rfl))
    (dss_cons (ds_set (i := 8) sc__law_game.nd rfl (by first | exact .inl rfl | exact .inr rfl) (de_if (dt_cmp (op_eqA (u64 hr)) g_eq (dl_var 7) (dl_of de_int) (nomark _)) (PE.ofF (df_lst (da_cons (de_var 7) da_nil))) (PE.ofF (df_listRg rfl (by rfl) m_list (drg_2 (by rfl) m_range (de_callB (call_maxA rfl) g_max (by rfl) m_max b_max (dls_cons (dl_of de_int) (dls_cons (dl_of (de_bin op_sub g_sub (dl_var 7) (dl_var 2))) dls_nil))) (de_bin op_addA g_add (dl_of (de_callB (call_minA rfl) g_min (by rfl) m_min b_min (dls_cons (dl_var 1) (dls_cons (dl_of (de_bin op_addA g_add (dl_var 7) (dl_var 2))) dls_nil)))) (dl_of de_int)))))))
    (dss_cons (ds_setO (i := 9) sc__law_game.nd rfl (by first | exact .inl rfl | exact .inr rfl) (df_lst da_nil))
    (dss_cons (ds_for PassesOwn.never rfl (di_seq (de_var 8)) (dg_name (i := 10) sc__law_game.nd rfl (by first | exact .inl rfl | exact .inr rfl))
    (dss_cons (ds_set (i := 11) sc__law_game.nd rfl (by first | exact .inl rfl | exact .inr rfl) (de_and (de_cmp op_gt g_cmp (dl_var 10) (dl_of de_int) (nomark _)) (de_one (de_cmp (op_inA (u65 hr)) g_in (dl_of (de_bin op_sub g_sub (dl_var 10) (dl_of de_int))) (dl_var 5) (by with_unfolding_all rfl)))))
    (dss_one (ds_expr (de_append (pe_bm PySem.F.plainAttrs_list PySem.F.slot_list_append PySem.F.type_list_append mt_append (pv 9) (da_cons (de_if (dt_val (de_var 11)) de_non (de_callT call_tuple_of g_tuple (by rfl) m_tuple b_tuple (dls_cons (dl_of (PE.ofF (df_callB call_sortedA g_sorted (by rfl) m_sorted b_sorted (dls_cons (dl_of (de_bin op_addA g_add (dl_var 5) (dl_of (de_if (dt_cmp op_gt g_cmp (dl_var 10) (dl_of de_int) (nomark _)) (PE.ofF (df_lst (da_cons (de_bin op_sub g_sub (dl_var 10) (dl_of de_int)) da_nil))) (PE.ofF (df_lst da_nil)))))) dls_nil)))) dls_nil))) da_nil)))))))
    (dss_one (ds_frz 9 (ds_expr (de_append (pe_bm PySem.F.plainAttrs_list PySem.F.slot_list_append PySem.F.type_list_append mt_append (pv 6) (da_cons (de_tup (da_cons (de_var 7) (da_cons (de_var 9) da_nil))) da_nil))))))))))
    (dss_one (ds_frz 6 (ds_asg (de_var 6) (dg_sub (i := 3) (u1 hr) (dl_var 4))))))))
    (dss_one (ds_retO 3))))
def N__law_game : Fn := runD [false, false, false] 10 (f__law_game N__law_can N__law_states)
abbrev s__law_clashes : Stmt := topS 51
theorem sc__law_clashes : FnScope ["game", "found", "beats", "is_new", "later", "state", "forced", "height", "ends", "end"] ["game"] (defScope s__law_clashes) := ⟨rfl, rfl, rfl, by decide +kernel, rfl, by decide +kernel, by decide +kernel⟩
def f__law_clashes  : FS := (fSeq (fPar [1, 2, 3] (fmOwn (fC (.dT [])) (fmVal (fC (.int 0)) (fmVal (fC (.bl true)) fmNil))))
    (fSeq (fWhile 200 (fTest (fVar 3))
    (fSeq (fPar [2, 4] (fmVal (fOp2 gAdd (fLv 2) (fLd (fC (.int 1)))) (fmOwn (fLst faNil) fmNil)))
    (fSeq (fFor (fiKeysV 0) (setE 5)
    (fIf (fTest (fOp2 gNotIn (fLv 5) (fLv 1)))
    (fSeq (fSet 6 (fComp (fiSeq (fOp2 gIx (fLv 0) (fLv 5))) (fgTup (fgCons (setE 7) (fgCons (setE 8) fgNil)) 2) fYes (fB gAny (flCons (fLd (fComp (fiSeq (fVar 8)) (setE 9) fYes (feOr (fOp2 gIs (fLv 9) (fLd (fC .non))) (fOp2 gIn (fLv 9) (fLv 1))) [9])) flNil)) [7, 8]))
    (fIf (fTest (fB gAll (flCons (fLv 6) flNil)))
    (fDrop (fAppend 4 (faCons (fVar 5) faNil)))
    fSkip))
    fSkip))
    (fSeq (fFrz 4 (fFor (fiSeq (fVar 4)) (setE 5)
    (fAsg (fVar 2) (fgSub 1 (fLv 5)))))
    (fSet 3 (fOp2 gNe (fLv 4) (fLd (fLst faNil))))))))
    (fRetO 1)))
theorem w__law_clashes {fa : Addr} {fd : FuncData} (F : Fun K "_law_clashes" "_law_clashes" s__law_clashes fa fd) (m_all : mg "all" = none) (m_any : mg "any" = none) : FnG P w K mg base CX0 1 fa fd ["game"] (spD K [false] (runD [false] 9 (f__law_clashes))) := by
  refine okD F sc__law_clashes rfl rfl fun cdv A out s H E hg hr => ?_
  exact (dss_cons (ds_parU3 (i := 1) (j := 2) (l := 3) rfl sc__law_clashes.nd rfl rfl rfl (by first | exact .inl rfl | exact .inr rfl) (by first | exact .inl rfl | exact .inr rfl) (by first | exact .inl rfl | exact .inr rfl) (dm_own df_newT (dm_val de_int (dm_val de_bl dm_nil))))
    (dss_cons (ds_while 200 PassesOwn.never (dt_val (de_var 3))
    (dss_cons (ds_par (i := 2) (j := 4) rfl sc__law_clashes.nd rfl rfl (by decide) rfl rfl (dm_val (de_bin op_addA g_add (dl_var 2) (dl_of de_int)) (dm_own (df_lst da_nil) dm_nil)) (by rfl))
    (dss_cons (ds_forL (fun _ _ => keysV_dat) PassesOwn.never rfl (di_keysV 0) (dg_name (i := 5) sc__law_clashes.nd rfl (by first | exact .inl rfl | exact .inr rfl))
    (dss_one (ds_if (dt_cmp (op_notInA (u65 hr)) g_notIn (dl_var 5) (dl_var 1) (by with_unfolding_all rfl))
    (dss_cons (ds_setLcV rfl sc__law_clashes.nd rfl rfl (by rfl) (di_seq (de_ix (ix_A (u1 hr)) g_ix (dl_var 0) (dl_var 5) (fun _ _ => rfl))) (blkOk_by (own := [("height", 7), ("ends", 8)]) (by kernel_rfl)) (by decide) (fun _ _ _ _ _ => (dg_tup rfl (dgs_cons (dg_name (i := 7) sc__law_clashes.nd rfl (by first | exact .inl rfl | exact .inr rfl)) (dgs_cons (dg_name (i := 8) sc__law_clashes.nd rfl (by first | exact .inl rfl | exact .inr rfl)) dgs_nil)))) (fun _ _ _ _ _ => dts_nil) (fun _ _ _ _ _ => (de_callB (cr_any rfl) g_any (by rfl) m_any b_any (dls_cons (dl_of (PE.ofF (df_comp rfl sc__law_clashes.nd (di_seq (de_var 8)) (blkOk_by (own := [("end", 9)]) (by kernel_rfl)) (by decide) (fun _ _ _ _ _ => (dg_name (i := 9) sc__law_clashes.nd rfl (by first | exact .inl rfl | exact .inr rfl))) (fun _ _ _ _ _ => dts_nil) (fun _ _ _ _ _ => (de_or (de_cmp op_isA g_is (dl_var 9) (dl_of de_non) (nomark _)) (de_one (de_cmp (op_inA (u65 hr)) g_in (dl_var 9) (dl_var 1) (by with_unfolding_all rfl)))))))) dls_nil))))
    (dss_one (ds_if (dt_val (de_callB (cr_all rfl) g_all (by rfl) m_all b_all (dls_cons (dl_var 6) dls_nil)))
    (dss_one (ds_expr (de_append (pe_bm PySem.F.plainAttrs_list PySem.F.slot_list_append PySem.F.type_list_append mt_append (pv 4) (da_cons (de_var 5) da_nil)))))
    dss_nil)))
    dss_nil)))
    (dss_cons (ds_frz 4 (ds_for PassesOwn.never rfl (di_seq (de_var 4)) (dg_name (i := 5) sc__law_clashes.nd rfl (by first | exact .inl rfl | exact .inr rfl))
    (dss_one (ds_asg (de_var 2) (dg_sub (i := 1) (u1 hr) (dl_var 5))))))
    (dss_one (ds_set (i := 3) sc__law_clashes.nd rfl (by first | exact .inl rfl | exact .inr rfl) (de_cmp (op_neA (u64 hr)) g_ne (dl_var 4) (dl_of (PE.ofF (df_lst da_nil))) (nomark _))))))))
    (dss_one (ds_retO 1))))
def N__law_clashes : Fn := runD [false] 9 (f__law_clashes)
abbrev s__law_safe_throws : Stmt := topS 52
theorem sc__law_safe_throws : FnScope ["game", "lost", "state", "height", "ends", "end"] ["game", "lost", "state"] (defScope s__law_safe_throws) := ⟨rfl, rfl, rfl, by decide +kernel, rfl, by decide +kernel, by decide +kernel⟩
def f__law_safe_throws  : FS := (fRetF (fComp (fiSeq (fOp2 gIx (fLv 0) (fLv 2))) (fgTup (fgCons (setE 3) (fgCons (setE 4) fgNil)) 2) (ftNot (fTest (fB gAny (flCons (fLd (fComp (fiSeq (fVar 4)) (setE 5) fYes (feOr (fOp2 gIs (fLv 5) (fLd (fC .non))) (fOp2 gIn (fLv 5) (fLv 1))) [5])) flNil)))) (fVar 3) [3, 4]))
theorem w__law_safe_throws {fa : Addr} {fd : FuncData} (F : Fun K "_law_safe_throws" "_law_safe_throws" s__law_safe_throws fa fd) (m_any : mg "any" = none) : FnG P w K mg base CX0 1 fa fd ["game", "lost", "state"] (spD K [false, false, false] (runD [false, false, false] 3 (f__law_safe_throws))) := by
  refine okD F sc__law_safe_throws rfl rfl fun cdv A out s H E hg hr => ?_
  exact (dss_one (ds_retF (df_comp rfl sc__law_safe_throws.nd (di_seq (de_ix (ix_A (u1 hr)) g_ix (dl_var 0) (dl_var 2) (fun _ _ => rfl))) (blkOk_by (own := [("height", 3), ("ends", 4)]) (by kernel_rfl)) (by decide) (fun _ _ _ _ _ => (dg_tup rfl (dgs_cons (dg_name (i := 3) sc__law_safe_throws.nd rfl (by first | exact .inl rfl | exact .inr rfl)) (dgs_cons (dg_name (i := 4) sc__law_safe_throws.nd rfl (by first | exact .inl rfl | exact .inr rfl)) dgs_nil)))) (fun _ _ _ _ _ => (dts_one (dt_not (dt_val (de_callB (cr_any rfl) g_any (by rfl) m_any b_any (dls_cons (dl_of (PE.ofF (df_comp rfl sc__law_safe_throws.nd (di_seq (de_var 4)) (blkOk_by (own := [("end", 5)]) (by kernel_rfl)) (by decide) (fun _ _ _ _ _ => (dg_name (i := 5) sc__law_safe_throws.nd rfl (by first | exact .inl rfl | exact .inr rfl))) (fun _ _ _ _ _ => dts_nil) (fun _ _ _ _ _ => (de_or (de_cmp op_isA g_is (dl_var 5) (dl_of de_non) (nomark _)) (de_one (de_cmp (op_inA (u65 hr)) g_in (dl_var 5) (dl_var 1) (by with_unfolding_all rfl)))))))) dls_nil)))))) (fun _ _ _ _ _ => (de_var 3)))))
def N__law_safe_throws : Fn := runD [false, false, false] 3 (f__law_safe_throws)
abbrev s__law_steadied : Stmt := topS 53
theorem sc__law_steadied : FnScope ["game", "lost", "ground", "found", "beats", "is_new", "later", "state", "height", "ends", "end"] ["game", "lost", "ground"] (defScope s__law_steadied) := ⟨rfl, rfl, rfl, by decide +kernel, rfl, by decide +kernel, by decide +kernel⟩
def f__law_steadied  : FS := (fSeq (fPar [3, 4, 5] (fmOwn (feIf (fTest (fOp2 gNotIn (fLv 2) (fLv 1))) (fDict1 true (fVar 2) (fC (.int 0))) (fC (.dT []))) (fmVal (fC (.int 0)) (fmVal (fOp2 gNotIn (fLv 2) (fLv 1)) fmNil))))
    (fSeq (fWhile 200 (fTest (fVar 5))
    (fSeq (fPar [4, 6] (fmVal (fOp2 gAdd (fLv 4) (fLd (fC (.int 1)))) (fmOwn (fLst faNil) fmNil)))
    (fSeq (fFor (fiKeysV 0) (setE 7)
    (fIf (ftAnd (fTest (fOp2 gNotIn (fLv 7) (fLv 3))) (fTest (fOp2 gNotIn (fLv 7) (fLv 1))))
    (fFor (fiSeq (fOp2 gIx (fLv 0) (fLv 7))) (fgTup (fgCons (setE 8) (fgCons (setE 9) fgNil)) 2)
    (fIf (ftAnd (fTest (fB gAll (flCons (fLd (fComp (fiSeq (fVar 9)) (setE 10) fYes (feAnd (fOp2 gIsNot (fLv 10) (fLd (fC .non))) (fOp2 gIn (fLv 10) (fLv 3))) [10])) flNil))) (fTest (fOp2 gNotIn (fLv 7) (fLv 6))))
    (fDrop (fAppend 6 (faCons (fVar 7) faNil)))
    fSkip))
    fSkip))
    (fSeq (fFrz 6 (fFor (fiSeq (fVar 6)) (setE 7)
    (fAsg (fVar 4) (fgSub 3 (fLv 7)))))
    (fSet 5 (fOp2 gNe (fLv 6) (fLd (fLst faNil))))))))
    (fRetO 3)))
theorem w__law_steadied {fa : Addr} {fd : FuncData} (F : Fun K "_law_steadied" "_law_steadied" s__law_steadied fa fd) (m_all : mg "all" = none) : FnG P w K mg base CX0 1 fa fd ["game", "lost", "ground"] (spD K [false, false, false] (runD [false, false, false] 8 (f__law_steadied))) := by
  refine okD F sc__law_steadied rfl rfl fun cdv A out s H E hg hr => ?_
  exact (dss_cons (ds_parU3 (i := 3) (j := 4) (l := 5) rfl sc__law_steadied.nd rfl rfl rfl (by first | exact .inl rfl | exact .inr rfl) (by first | exact .inl rfl | exact .inr rfl) (by first | exact .inl rfl | exact .inr rfl) (dm_own (df_if (dt_cmp (op_notInA (u65 hr)) g_notIn (dl_var 2) (dl_var 1) (by with_unfolding_all rfl)) (df_dict1 true (u64 hr) (de_var 2) de_int) df_newT) (dm_val de_int (dm_val (de_cmp (op_notInA (u65 hr)) g_notIn (dl_var 2) (dl_var 1) (by with_unfolding_all rfl)) dm_nil))))
    (dss_cons (ds_while 200 PassesOwn.never (dt_val (de_var 5))
    (dss_cons (ds_par (i := 4) (j := 6) rfl sc__law_steadied.nd rfl rfl (by decide) rfl rfl (dm_val (de_bin op_addA g_add (dl_var 4) (dl_of de_int)) (dm_own (df_lst da_nil) dm_nil)) (by rfl))
    (dss_cons (ds_forL (fun _ _ => keysV_dat) PassesOwn.never rfl (di_keysV 0) (dg_name (i := 7) sc__law_steadied.nd rfl (by first | exact .inl rfl | exact .inr rfl))
    (dss_one (ds_if (PW.pt (dw_and (dt_cmp (op_notInA (u65 hr)) g_notIn (dl_var 7) (dl_var 3) (by with_unfolding_all rfl)) (dw_and1 (dt_cmp (op_notInA (u65 hr)) g_notIn (dl_var 7) (dl_var 1) (by with_unfolding_all rfl)))))
    (dss_one (ds_for PassesOwn.never rfl (di_seq (de_ix (ix_A (u1 hr)) g_ix (dl_var 0) (dl_var 7) (fun _ _ => rfl))) (dg_tup rfl (dgs_cons (dg_name (i := 8) sc__law_steadied.nd rfl (by first | exact .inl rfl | exact .inr rfl)) (dgs_cons (dg_name (i := 9) sc__law_steadied.nd rfl (by first | exact .inl rfl | exact .inr rfl)) dgs_nil)))
    (dss_one (ds_if (PW.pt (dw_and (dt_val (de_callB (cr_all rfl) g_all (by rfl) m_all b_all (dls_cons (dl_of (PE.ofF (df_comp rfl sc__law_steadied.nd (di_seq (de_var 9)) (blkOk_by (own := [("end", 10)]) (by kernel_rfl)) (by decide) (fun _ _ _ _ _ => (dg_name (i := 10) sc__law_steadied.nd rfl (by first | exact .inl rfl | exact .inr rfl))) (fun _ _ _ _ _ => dts_nil) (fun _ _ _ _ _ => (de_and (de_cmp op_isNotA g_isNot (dl_var 10) (dl_of de_non) (nomark _)) (de_one (de_cmp (op_inA (u65 hr)) g_in (dl_var 10) (dl_var 3) (by with_unfolding_all rfl)))))))) dls_nil))) (dw_and1 (dt_cmp (op_notInA (u65 hr)) g_notIn (dl_var 7) (dl_var 6) (by with_unfolding_all rfl)))))
    (dss_one (ds_expr (de_append (pe_bm PySem.F.plainAttrs_list PySem.F.slot_list_append PySem.F.type_list_append mt_append (pv 6) (da_cons (de_var 7) da_nil)))))
    dss_nil))))
    dss_nil)))
    (dss_cons (ds_frz 6 (ds_for PassesOwn.never rfl (di_seq (de_var 6)) (dg_name (i := 7) sc__law_steadied.nd rfl (by first | exact .inl rfl | exact .inr rfl))
    (dss_one (ds_asg (de_var 4) (dg_sub (i := 3) (u1 hr) (dl_var 7))))))
    (dss_one (ds_set (i := 5) sc__law_steadied.nd rfl (by first | exact .inl rfl | exact .inr rfl) (de_cmp (op_neA (u64 hr)) g_ne (dl_var 6) (dl_of (PE.ofF (df_lst da_nil))) (nomark _))))))))
    (dss_one (ds_retO 3))))
def N__law_steadied : Fn := runD [false, false, false] 8 (f__law_steadied)
abbrev s__law_is_told_right : Stmt := topS 55
theorem sc__law_is_told_right : FnScope ["game", "value", "told", "state", "rows", "beats", "height", "ends", "forced", "fine", "end"] ["game", "value"] (defScope s__law_is_told_right) := ⟨rfl, rfl, rfl, by decide +kernel, rfl, by decide +kernel, by decide +kernel⟩
def f__law_is_told_right  : FS := (fSeq (fSet 2 (fB gDict (flCons (fLd (fB gList (flCons (fLv 1) flNil))) flNil)))
    (fSeq (fFor (fiItems 0) (fgTup (fgCons (setE 3) (fgCons (setE 4) fgNil)) 2)
    (fSeq (fSet 5 (fOp2 gIx (fLv 2) (fLv 3)))
    (fSeq (fIf (ftAnd (fTest (fOp2 gIsNot (fLv 5) (fLd (fC .non)))) (fTest (fOp2 gLt (fLv 5) (fLd (fC (.int 1))))))
    (fRet (fC (.bl false)))
    fSkip)
    (fSeq (fFor (fiSeq (fVar 4)) (fgTup (fgCons (setE 6) (fgCons (setE 7) fgNil)) 2)
    (fSeq (fSet 8 (fComp (fiSeq (fVar 7)) (setE 10) fYes (feOr (fOp2 gIs (fLv 10) (fLd (fC .non))) (feAnd (fOp2 gIsNot (fLd (fOp2 gIx (fLv 2) (fLv 10))) (fLd (fC .non))) (feAnd (fOp2 gIsNot (fLv 5) (fLd (fC .non))) (fOp2 gLt (fLd (fOp2 gIx (fLv 2) (fLv 10))) (fLv 5))))) [10]))
    (fIf (ftAnd (fTest (fOp2 gIsNot (fLv 5) (fLd (fC .non)))) (ftNot (fTest (fB gAny (flCons (fLv 8) flNil)))))
    (fRet (fC (.bl false)))
    fSkip)))
    (fIf (fTest (fOp2 gIs (fLv 5) (fLd (fC .non))))
    (fSeq (fSet 9 (fComp (fiSeq (fVar 4)) (fgTup (fgCons (setE 6) (fgCons (setE 7) fgNil)) 2) (fTest (fB gAll (flCons (fLd (fComp (fiSeq (fVar 7)) (setE 10) fYes (feAnd (fOp2 gIsNot (fLv 10) (fLd (fC .non))) (fOp2 gIs (fLd (fOp2 gIx (fLv 2) (fLv 10))) (fLd (fC .non)))) [10])) flNil))) (fVar 6) [6, 7]))
    (fIf (fTest (fOp2 gEq (fLv 9) (fLd (fLst faNil))))
    (fRet (fC (.bl false)))
    fSkip))
    fSkip)))))
    (fRet (fC (.bl true)))))
theorem w__law_is_told_right {fa : Addr} {fd : FuncData} (F : Fun K "_law_is_told_right" "_law_is_told_right" s__law_is_told_right fa fd) (m_all : mg "all" = none) (m_any : mg "any" = none) (m_dict : mg "dict" = none) (m_list : mg "list" = none) : FnG P w K mg base CX0 1 fa fd ["game", "value"] (spD K [false, false] (runD [false, false] 9 (f__law_is_told_right))) := by
  refine okD F sc__law_is_told_right rfl rfl fun cdv A out s H E hg hr => ?_
  exact (dss_cons (ds_set (i := 2) sc__law_is_told_right.nd rfl (by first | exact .inl rfl | exact .inr rfl) (PE.ofF (df_callT (call_dictT rfl (u66 hr)) g_dict (by rfl) m_dict b_dict (dls_cons (dl_of (PE.ofF (df_callT call_list_of g_list (by rfl) m_list b_list (dls_cons (dl_var 1) dls_nil)))) dls_nil))))
    (dss_cons (ds_forL (fun _ _ => items_dat) PassesOwn.never rfl (di_items 0) (dg_tup rfl (dgs_cons (dg_name (i := 3) sc__law_is_told_right.nd rfl (by first | exact .inl rfl | exact .inr rfl)) (dgs_cons (dg_name (i := 4) sc__law_is_told_right.nd rfl (by first | exact .inl rfl | exact .inr rfl)) dgs_nil)))
    (dss_cons (ds_set (i := 5) sc__law_is_told_right.nd rfl (by first | exact .inl rfl | exact .inr rfl) (de_ix (ix_A (u1 hr)) g_ix (dl_var 2) (dl_var 3) (fun _ _ => rfl)))
    (dss_cons (ds_if (PW.pt (dw_and (dt_cmp op_isNotA g_isNot (dl_var 5) (dl_of de_non) (nomark _)) (dw_and1 (dt_cmp op_lt g_cmp (dl_var 5) (dl_of de_int) (nomark _)))))
    (dss_one (ds_ret de_bl))
    dss_nil)
    (dss_cons (ds_for PassesOwn.never rfl (di_seq (de_var 4)) (dg_tup rfl (dgs_cons (dg_name (i := 6) sc__law_is_told_right.nd rfl (by first | exact .inl rfl | exact .inr rfl)) (dgs_cons (dg_name (i := 7) sc__law_is_told_right.nd rfl (by first | exact .inl rfl | exact .inr rfl)) dgs_nil)))
    (dss_cons (ds_setLcV rfl sc__law_is_told_right.nd rfl rfl (by rfl) (di_seq (de_var 7)) (blkOk_by (own := [("end", 10)]) (by kernel_rfl)) (by decide) (fun _ _ _ _ _ => (dg_name (i := 10) sc__law_is_told_right.nd rfl (by first | exact .inl rfl | exact .inr rfl))) (fun _ _ _ _ _ => dts_nil) (fun _ _ _ _ _ => (de_or (de_cmp op_isA g_is (dl_var 10) (dl_of de_non) (nomark _)) (de_one (de_and (de_cmp op_isNotA g_isNot (dl_of (de_ix (ix_A (u1 hr)) g_ix (dl_var 2) (dl_var 10) (fun _ _ => rfl))) (dl_of de_non) (nomark _)) (de_and (de_cmp op_isNotA g_isNot (dl_var 5) (dl_of de_non) (nomark _)) (de_one (de_cmp op_lt g_cmp (dl_of (de_ix (ix_A (u1 hr)) g_ix (dl_var 2) (dl_var 10) (fun _ _ => rfl))) (dl_var 5) (nomark _)))))))))
    (dss_one (ds_if (PW.pt (dw_and (dt_cmp op_isNotA g_isNot (dl_var 5) (dl_of de_non) (nomark _)) (dw_and1 (dt_not (dt_val (de_callB (cr_any rfl) g_any (by rfl) m_any b_any (dls_cons (dl_var 8) dls_nil)))))))
    (dss_one (ds_ret de_bl))
    dss_nil))))
    (dss_one (ds_if (dt_cmp op_isA g_is (dl_var 5) (dl_of de_non) (nomark _))
    (dss_cons (ds_setLcV rfl sc__law_is_told_right.nd rfl rfl (by rfl) (di_seq (de_var 4)) (blkOk_by (own := [("height", 6), ("ends", 7)]) (by kernel_rfl)) (by decide) (fun _ _ _ _ _ => (dg_tup rfl (dgs_cons (dg_name (i := 6) sc__law_is_told_right.nd rfl (by first | exact .inl rfl | exact .inr rfl)) (dgs_cons (dg_name (i := 7) sc__law_is_told_right.nd rfl (by first | exact .inl rfl | exact .inr rfl)) dgs_nil)))) (fun _ _ _ _ _ => (dts_one (dt_val (de_callB (cr_all rfl) g_all (by rfl) m_all b_all (dls_cons (dl_of (PE.ofF (df_comp rfl sc__law_is_told_right.nd (di_seq (de_var 7)) (blkOk_by (own := [("end", 10)]) (by kernel_rfl)) (by decide) (fun _ _ _ _ _ => (dg_name (i := 10) sc__law_is_told_right.nd rfl (by first | exact .inl rfl | exact .inr rfl))) (fun _ _ _ _ _ => dts_nil) (fun _ _ _ _ _ => (de_and (de_cmp op_isNotA g_isNot (dl_var 10) (dl_of de_non) (nomark _)) (de_one (de_cmp op_isA g_is (dl_of (de_ix (ix_A (u1 hr)) g_ix (dl_var 2) (dl_var 10) (fun _ _ => rfl))) (dl_of de_non) (nomark _)))))))) dls_nil))))) (fun _ _ _ _ _ => (de_var 6)))
    (dss_one (ds_if (dt_cmp (op_eqA (u64 hr)) g_eq (dl_var 9) (dl_of (PE.ofF (df_lst da_nil))) (nomark _))
    (dss_one (ds_ret de_bl))
    dss_nil)))
    dss_nil))))))
    (dss_one (ds_ret de_bl))))
def N__law_is_told_right : Fn := runD [false, false] 9 (f__law_is_told_right)
abbrev s__law_is_slip_right : Stmt := topS 54
theorem sc__law_is_slip_right : FnScope ["pot", "many", "most", "slip", "game", "lost", "states", "due", "at", "other", "bent", "state", "forced", "rows", "beat"] ["pot", "many", "most", "slip"] (defScope s__law_is_slip_right) := ⟨rfl, rfl, rfl, by decide +kernel, rfl, by decide +kernel, by decide +kernel⟩
def f__law_is_slip_right (n__law_clashes : Fn) (n__law_game : Fn) (n__law_is_told_right : Fn) (n__law_safe_throws : Fn) (n__law_some : Fn) (n__law_steadied : Fn) (n__law_take : Fn) (n_clashes : Fn) (n_safe : Fn) (n_safe_throws : Fn) (n_shows_clashes : Fn) (n_steadied : Fn) : FS := (fSeq (fSet 4 (fCall [false, false, false] n__law_game (flCons (fLv 1) (flCons (fLv 2) (flCons (fLv 3) flNil)))))
    (fSeq (fPar [5, 6] (fmVal (fCall [false] n__law_clashes (flCons (fLv 4) flNil)) (fmVal (fB gSortD (flCons (fLv 4) flNil)) fmNil)))
    (fSeq (fIf (fTest (fOp2 gNe (fLd (fCall [false, false, false] n_safe (flCons (fLv 1) (flCons (fLv 2) (flCons (fLv 3) flNil))))) (fLd (fB gTuple (flCons (fLd (fComp (fiSeq (fVar 6)) (setE 11) (fTest (fOp2 gNotIn (fLv 11) (fLv 5))) (fVar 11) [11])) flNil)))))
    (fRet (fC .non))
    fSkip)
    (fSeq (fSet 7 (fB gTupleP (flCons (fLd (fComp (fiSeq (fVar 6)) (setE 11) fYes (fTup (faCons (fVar 11) (faCons (fGet1 (fLv 5) (fLv 11)) faNil))) [11])) flNil)))
    (fSeq (fIf (ftOr (fTest (fOp2 gNe (fLd (fB gRepr (flCons (fLd (fCall [false, false, false] n_clashes (flCons (fLv 1) (flCons (fLv 2) (flCons (fLv 3) flNil))))) flNil))) (fLd (fB gRepr (flCons (fLv 7) flNil))))) (fTest (fOp2 gIsNot (fLd (fCall [false, false, false, false] n_shows_clashes (flCons (fLv 1) (flCons (fLv 2) (flCons (fLv 3) (flCons (fLv 7) flNil)))))) (fLd (fC (.bl true))))))
    (fRet (fC .non))
    fSkip)
    (fSeq (fSet 8 (fCall [true, false] n__law_take (flCons (fLv 0) (flCons (fLd (fB gLen (flCons (fLv 7) flNil))) flNil))))
    (fSeq (fFor (fiSeq (fTup (faCons (fC .non) (faCons (fC (.int 1)) (faCons (fC (.int 2)) (faCons (fC (.int 9)) (faCons (fC (.int 0)) faNil))))))) (setE 9)
    (fSeq (fSet 10 (fOp2 gAddP (fLd (fOp2 gAddP (fLd (fSlP (fLv 7) foNone (foSome (fVar 8)))) (fLd (fTupP (faCons (fTup (faCons (fOp2 gIx (fLd (fOp2 gIx (fLv 7) (fLv 8))) (fLd (fC (.int 0)))) (faCons (fVar 9) faNil))) faNil))))) (fLd (fSlP (fLv 7) (foSome (fOp2 gAdd (fLv 8) (fLd (fC (.int 1))))) foNone))))
    (fIf (fTest (fOp2 gNe (fLd (fB gRepr (flCons (fLd (fCall [false, false, false, false] n_shows_clashes (flCons (fLv 1) (flCons (fLv 2) (flCons (fLv 3) (flCons (fLv 10) flNil)))))) flNil))) (fLd (fB gRepr (flCons (fLd (fCall [false, false] n__law_is_told_right (flCons (fLv 4) (flCons (fLv 10) flNil)))) flNil)))))
    (fRet (fC .non))
    fSkip)))
    (fSeq (fFor (fiSeq (fCall [true, false, false] n__law_some (flCons (fLv 0) (flCons (fLv 6) (flCons (fLd (fB gMin (flCons (fLd (fC (.int 6))) (flCons (fLd (fB gLen (flCons (fLv 6) flNil))) flNil)))) flNil))))) (setE 11)
    (fSeq (fIf (fTest (fOp2 gNe (fLd (fCall [false, false, false] n_safe_throws (flCons (fLv 11) (flCons (fLv 2) (flCons (fLv 3) flNil))))) (fLd (fB gTuple (flCons (fLd (fCall [false, false, false] n__law_safe_throws (flCons (fLv 4) (flCons (fLv 5) (flCons (fLv 11) flNil))))) flNil)))))
    (fRet (fC .non))
    fSkip)
    (fIf (ftAnd (fTest (fOp2 gIn (fLv 11) (fLv 5))) (fTest (fOp2 gNe (fLd (fCall [false, false, false] n_safe_throws (flCons (fLv 11) (flCons (fLv 2) (flCons (fLv 3) flNil))))) (fLd (fTup faNil)))))
    (fRet (fC .non))
    fSkip)))
    (fSeq (fSet 12 (fCall [false, false, false] n__law_steadied (flCons (fLv 4) (flCons (fLv 5) (flCons (fLd (fB gTuple (flCons (fLd (fComp (fiRng1 (flCons (fLv 1) flNil)) (setE 14) fYes (fB gInt (flCons (fLv 14) flNil)) [14])) flNil))) flNil)))))
    (fSeq (fSet 13 (fB gTuple (flCons (fLd (fComp (fiSeq (fVar 6)) (setE 11) (fTest (fOp2 gNotIn (fLv 11) (fLv 5))) (fTup (faCons (fVar 11) (faCons (fGet1 (fLv 12) (fLv 11)) faNil))) [11])) flNil)))
    (fRet (feIf (fTest (fOp2 gEq (fLd (fB gRepr (flCons (fLd (fCall [false, false, false] n_steadied (flCons (fLv 1) (flCons (fLv 2) (flCons (fLv 3) flNil))))) flNil))) (fLd (fB gRepr (flCons (fLv 13) flNil))))) (fComp (fiSeq (fVar 6)) (setE 11) (fTest (fOp2 gNotIn (fLv 11) (fLv 5))) (fVar 11) [11]) (fC .non)))))))))))))
theorem w__law_is_slip_right {fa : Addr} {fd : FuncData} (F : Fun K "_law_is_slip_right" "_law_is_slip_right" s__law_is_slip_right fa fd) {a__law_clashes : Addr} {d__law_clashes : FuncData} {n__law_clashes : Fn} (h__law_clashes : Has P w K mg base 1 "_law_clashes" ["game"] [false] n__law_clashes a__law_clashes d__law_clashes) {a__law_game : Addr} {d__law_game : FuncData} {n__law_game : Fn} (h__law_game : Has P w K mg base 3 "_law_game" ["many", "most", "slip"] [false, false, false] n__law_game a__law_game d__law_game) {a__law_is_told_right : Addr} {d__law_is_told_right : FuncData} {n__law_is_told_right : Fn} (h__law_is_told_right : Has P w K mg base 1 "_law_is_told_right" ["game", "value"] [false, false] n__law_is_told_right a__law_is_told_right d__law_is_told_right) {a__law_safe_throws : Addr} {d__law_safe_throws : FuncData} {n__law_safe_throws : Fn} (h__law_safe_throws : Has P w K mg base 1 "_law_safe_throws" ["game", "lost", "state"] [false, false, false] n__law_safe_throws a__law_safe_throws d__law_safe_throws) {a__law_some : Addr} {d__law_some : FuncData} {n__law_some : Fn} (h__law_some : Has P w K mg base 2 "_law_some" ["pot", "pool", "many"] [true, false, false] n__law_some a__law_some d__law_some) {a__law_steadied : Addr} {d__law_steadied : FuncData} {n__law_steadied : Fn} (h__law_steadied : Has P w K mg base 1 "_law_steadied" ["game", "lost", "ground"] [false, false, false] n__law_steadied a__law_steadied d__law_steadied) {a__law_take : Addr} {d__law_take : FuncData} {n__law_take : Fn} (h__law_take : Has P w K mg base 1 "_law_take" ["pot", "upto"] [true, false] n__law_take a__law_take d__law_take) {a_clashes : Addr} {d_clashes : FuncData} {n_clashes : Fn} (h_clashes : Has P w K mg base 5 "clashes" ["balls", "most", "slip"] [false, false, false] n_clashes a_clashes d_clashes) {a_safe : Addr} {d_safe : FuncData} {n_safe : Fn} (h_safe : Has P w K mg base 5 "safe" ["balls", "most", "slip"] [false, false, false] n_safe a_safe d_safe) {a_safe_throws : Addr} {d_safe_throws : FuncData} {n_safe_throws : Fn} (h_safe_throws : Has P w K mg base 7 "safe_throws" ["state", "most", "slip"] [false, false, false] n_safe_throws a_safe_throws d_safe_throws) {a_shows_clashes : Addr} {d_shows_clashes : FuncData} {n_shows_clashes : Fn} (h_shows_clashes : Has P w K mg base 5 "shows_clashes" ["balls", "most", "slip", "value"] [false, false, false, false] n_shows_clashes a_shows_clashes d_shows_clashes) {a_steadied : Addr} {d_steadied : FuncData} {n_steadied : Fn} (h_steadied : Has P w K mg base 5 "steadied" ["balls", "most", "slip"] [false, false, false] n_steadied a_steadied d_steadied) (m_int : mg "int" = none) (m_len : mg "len" = none) (m_min : mg "min" = none) (m_range : mg "range" = none) (m_repr : mg "repr" = none) (m_sorted : mg "sorted" = none) (m_tuple : mg "tuple" = none) : FnG P w K mg base CX0 8 fa fd ["pot", "many", "most", "slip"] (spD K [true, false, false, false] (runD [true, false, false, false] 11 (f__law_is_slip_right n__law_clashes n__law_game n__law_is_told_right n__law_safe_throws n__law_some n__law_steadied n__law_take n_clashes n_safe n_safe_throws n_shows_clashes n_steadied))) := by
  refine okD F sc__law_is_slip_right rfl rfl fun cdv A out s H E hg hr => ?_
  exact (dss_cons (ds_set (i := 4) sc__law_is_slip_right.nd rfl (by first | exact .inl rfl | exact .inr rfl) (de_call (h__law_game.go.mono (by decide)) hg hr (by rfl) h__law_game.m h__law_game.kp h__law_game.b (dls_cons (dl_var 1) (dls_cons (dl_var 2) (dls_cons (dl_var 3) dls_nil)))))
    (dss_cons (ds_parU (i := 5) (j := 6) rfl sc__law_is_slip_right.nd rfl rfl (by first | exact .inl rfl | exact .inr rfl) (by first | exact .inl rfl | exact .inr rfl) (dm_val (de_call (h__law_clashes.go.mono (by decide)) hg hr (by rfl) h__law_clashes.m h__law_clashes.kp h__law_clashes.b (dls_cons (dl_var 4) dls_nil)) (dm_val (PE.ofF (df_sortD rfl (by rfl) m_sorted (dls_cons (dl_var 4) dls_nil))) dm_nil)))
    (dss_cons (ds_if (dt_cmp (op_neA (u64 hr)) g_ne (dl_of (de_call (h_safe.go.mono (by decide)) hg hr (by rfl) h_safe.m h_safe.kp h_safe.b (dls_cons (dl_var 1) (dls_cons (dl_var 2) (dls_cons (dl_var 3) dls_nil))))) (dl_of (de_callT call_tuple_of g_tuple (by rfl) m_tuple b_tuple (dls_cons (dl_of (PE.ofF (df_comp rfl sc__law_is_slip_right.nd (di_seq (de_var 6)) (blkOk_by (own := [("state", 11)]) (by kernel_rfl)) (by decide) (fun _ _ _ _ _ => (dg_name (i := 11) sc__law_is_slip_right.nd rfl (by first | exact .inl rfl | exact .inr rfl))) (fun _ _ _ _ _ => (dts_one (dt_cmp (op_notInA (u65 hr)) g_notIn (dl_var 11) (dl_var 5) (by with_unfolding_all rfl)))) (fun _ _ _ _ _ => (de_var 11))))) dls_nil))) (nomark _))
    (dss_one (ds_ret de_non))
    dss_nil)
    (dss_cons (ds_set (i := 7) sc__law_is_slip_right.nd rfl (by first | exact .inl rfl | exact .inr rfl) (de_callT call_tupP g_tupP (by rfl) m_tuple b_tuple (dls_cons (dl_of (PE.ofF (df_comp rfl sc__law_is_slip_right.nd (di_seq (de_var 6)) (blkOk_by (own := [("state", 11)]) (by kernel_rfl)) (by decide) (fun _ _ _ _ _ => (dg_name (i := 11) sc__law_is_slip_right.nd rfl (by first | exact .inl rfl | exact .inr rfl))) (fun _ _ _ _ _ => dts_nil) (fun _ _ _ _ _ => (de_tup (da_cons (de_var 11) (da_cons (de_get1 (pe_dget1 (u1 hr) (dl_var 5) (dl_var 11) ⟨rfl, rfl, rfl, rfl⟩)) da_nil))))))) dls_nil)))
    (dss_cons (ds_if (PW.pt (dw_or (dt_cmp (op_neA (u64 hr)) g_ne (dl_of (de_callB (call_reprA hg (u66 hr)) g_repr (by rfl) m_repr b_repr (dls_cons (dl_of (de_call (h_clashes.go.mono (by decide)) hg hr (by rfl) h_clashes.m h_clashes.kp h_clashes.b (dls_cons (dl_var 1) (dls_cons (dl_var 2) (dls_cons (dl_var 3) dls_nil))))) dls_nil))) (dl_of (de_callB (call_reprA hg (u66 hr)) g_repr (by rfl) m_repr b_repr (dls_cons (dl_var 7) dls_nil))) (nomark _)) (dw_or1 (dt_cmp op_isNotA g_isNot (dl_of (de_call (h_shows_clashes.go.mono (by decide)) hg hr (by rfl) h_shows_clashes.m h_shows_clashes.kp h_shows_clashes.b (dls_cons (dl_var 1) (dls_cons (dl_var 2) (dls_cons (dl_var 3) (dls_cons (dl_var 7) dls_nil)))))) (dl_of de_bl) (nomark _)))))
    (dss_one (ds_ret de_non))
    dss_nil)
    (dss_cons (ds_set (i := 8) sc__law_is_slip_right.nd rfl (by first | exact .inl rfl | exact .inr rfl) (de_call (h__law_take.go.mono (by decide)) hg hr (by rfl) h__law_take.m h__law_take.kp h__law_take.b (dls_cons (dl_var 0) (dls_cons (dl_of (de_callB call_len g_len (by rfl) m_len b_len (dls_cons (dl_var 7) dls_nil))) dls_nil))))
    (dss_cons (ds_for PassesOwn.never rfl (di_seq (de_tup (da_cons de_non (da_cons de_int (da_cons de_int (da_cons de_int (da_cons de_int da_nil))))))) (dg_name (i := 9) sc__law_is_slip_right.nd rfl (by first | exact .inl rfl | exact .inr rfl))
    (dss_cons (ds_set (i := 10) sc__law_is_slip_right.nd rfl (by first | exact .inl rfl | exact .inr rfl) (de_bin op_catP g_addP (dl_of (de_bin op_catP g_addP (dl_of (de_sliceP (dl_var 7) dpo_none (dpo_some (de_var 8)))) (dl_of (de_tupP (da_cons (de_tup (da_cons (de_ix (ix_A (u1 hr)) g_ix (dl_of (de_ix (ix_A (u1 hr)) g_ix (dl_var 7) (dl_var 8) (fun _ _ => rfl))) (dl_of de_int) (fun _ _ => rfl)) (da_cons (de_var 9) da_nil))) da_nil))))) (dl_of (de_sliceP (dl_var 7) (dpo_some (de_bin op_addA g_add (dl_var 8) (dl_of de_int))) dpo_none))))
    (dss_one (ds_if (dt_cmp (op_neA (u64 hr)) g_ne (dl_of (de_callB (call_reprA hg (u66 hr)) g_repr (by rfl) m_repr b_repr (dls_cons (dl_of (de_call (h_shows_clashes.go.mono (by decide)) hg hr (by rfl) h_shows_clashes.m h_shows_clashes.kp h_shows_clashes.b (dls_cons (dl_var 1) (dls_cons (dl_var 2) (dls_cons (dl_var 3) (dls_cons (dl_var 10) dls_nil)))))) dls_nil))) (dl_of (de_callB (call_reprA hg (u66 hr)) g_repr (by rfl) m_repr b_repr (dls_cons (dl_of (de_call (h__law_is_told_right.go.mono (by decide)) hg hr (by rfl) h__law_is_told_right.m h__law_is_told_right.kp h__law_is_told_right.b (dls_cons (dl_var 4) (dls_cons (dl_var 10) dls_nil)))) dls_nil))) (nomark _))
    (dss_one (ds_ret de_non))
    dss_nil))))
    (dss_cons (ds_for PassesOwn.never rfl (di_seq (de_call (h__law_some.go.mono (by decide)) hg hr (by rfl) h__law_some.m h__law_some.kp h__law_some.b (dls_cons (dl_var 0) (dls_cons (dl_var 6) (dls_cons (dl_of (de_callB (call_minA rfl) g_min (by rfl) m_min b_min (dls_cons (dl_of de_int) (dls_cons (dl_of (de_callB call_len g_len (by rfl) m_len b_len (dls_cons (dl_var 6) dls_nil))) dls_nil)))) dls_nil))))) (dg_name (i := 11) sc__law_is_slip_right.nd rfl (by first | exact .inl rfl | exact .inr rfl))
    (dss_cons (ds_if (dt_cmp (op_neA (u64 hr)) g_ne (dl_of (de_call (h_safe_throws.go.mono (by decide)) hg hr (by rfl) h_safe_throws.m h_safe_throws.kp h_safe_throws.b (dls_cons (dl_var 11) (dls_cons (dl_var 2) (dls_cons (dl_var 3) dls_nil))))) (dl_of (de_callT call_tuple_of g_tuple (by rfl) m_tuple b_tuple (dls_cons (dl_of (de_call (h__law_safe_throws.go.mono (by decide)) hg hr (by rfl) h__law_safe_throws.m h__law_safe_throws.kp h__law_safe_throws.b (dls_cons (dl_var 4) (dls_cons (dl_var 5) (dls_cons (dl_var 11) dls_nil))))) dls_nil))) (nomark _))
    (dss_one (ds_ret de_non))
    dss_nil)
    (dss_one (ds_if (PW.pt (dw_and (dt_cmp (op_inA (u65 hr)) g_in (dl_var 11) (dl_var 5) (by with_unfolding_all rfl)) (dw_and1 (dt_cmp (op_neA (u64 hr)) g_ne (dl_of (de_call (h_safe_throws.go.mono (by decide)) hg hr (by rfl) h_safe_throws.m h_safe_throws.kp h_safe_throws.b (dls_cons (dl_var 11) (dls_cons (dl_var 2) (dls_cons (dl_var 3) dls_nil))))) (dl_of (de_tup da_nil)) (nomark _)))))
    (dss_one (ds_ret de_non))
    dss_nil))))
    (dss_cons (ds_set (i := 12) sc__law_is_slip_right.nd rfl (by first | exact .inl rfl | exact .inr rfl) (de_call (h__law_steadied.go.mono (by decide)) hg hr (by rfl) h__law_steadied.m h__law_steadied.kp h__law_steadied.b (dls_cons (dl_var 4) (dls_cons (dl_var 5) (dls_cons (dl_of (de_callT call_tuple_of g_tuple (by rfl) m_tuple b_tuple (dls_cons (dl_of (PE.ofF (df_comp rfl sc__law_is_slip_right.nd (di_rng1 (by rfl) m_range (dls_cons (dl_var 1) dls_nil)) (blkOk_by (own := [("beat", 14)]) (by kernel_rfl)) (by decide) (fun _ _ _ _ _ => (dg_name (i := 14) sc__law_is_slip_right.nd rfl (by first | exact .inl rfl | exact .inr rfl))) (fun _ _ _ _ _ => dts_nil) (fun _ _ _ _ _ => (de_callT call_int1 g_int (by rfl) m_int b_int (dls_cons (dl_var 14) dls_nil)))))) dls_nil))) dls_nil)))))
    (dss_cons (ds_set (i := 13) sc__law_is_slip_right.nd rfl (by first | exact .inl rfl | exact .inr rfl) (de_callT call_tuple_of g_tuple (by rfl) m_tuple b_tuple (dls_cons (dl_of (PE.ofF (df_comp rfl sc__law_is_slip_right.nd (di_seq (de_var 6)) (blkOk_by (own := [("state", 11)]) (by kernel_rfl)) (by decide) (fun _ _ _ _ _ => (dg_name (i := 11) sc__law_is_slip_right.nd rfl (by first | exact .inl rfl | exact .inr rfl))) (fun _ _ _ _ _ => (dts_one (dt_cmp (op_notInA (u65 hr)) g_notIn (dl_var 11) (dl_var 5) (by with_unfolding_all rfl)))) (fun _ _ _ _ _ => (de_tup (da_cons (de_var 11) (da_cons (de_get1 (pe_dget1 (u1 hr) (dl_var 12) (dl_var 11) ⟨rfl, rfl, rfl, rfl⟩)) da_nil))))))) dls_nil)))
    (dss_one (ds_ret (de_if (dt_cmp (op_eqA (u64 hr)) g_eq (dl_of (de_callB (call_reprA hg (u66 hr)) g_repr (by rfl) m_repr b_repr (dls_cons (dl_of (de_call (h_steadied.go.mono (by decide)) hg hr (by rfl) h_steadied.m h_steadied.kp h_steadied.b (dls_cons (dl_var 1) (dls_cons (dl_var 2) (dls_cons (dl_var 3) dls_nil))))) dls_nil))) (dl_of (de_callB (call_reprA hg (u66 hr)) g_repr (by rfl) m_repr b_repr (dls_cons (dl_var 13) dls_nil))) (nomark _)) (PE.ofF (df_comp rfl sc__law_is_slip_right.nd (di_seq (de_var 6)) (blkOk_by (own := [("state", 11)]) (by kernel_rfl)) (by decide) (fun _ _ _ _ _ => (dg_name (i := 11) sc__law_is_slip_right.nd rfl (by first | exact .inl rfl | exact .inr rfl))) (fun _ _ _ _ _ => (dts_one (dt_cmp (op_notInA (u65 hr)) g_notIn (dl_var 11) (dl_var 5) (by with_unfolding_all rfl)))) (fun _ _ _ _ _ => (de_var 11)))) de_non)))))))))))))
def N__law_is_slip_right : Fn := runD [true, false, false, false] 11 (f__law_is_slip_right N__law_clashes N__law_game N__law_is_told_right N__law_safe_throws N__law_some N__law_steadied N__law_take N_clashes N_safe N_safe_throws N_shows_clashes N_steadied)
abbrev s_law : Stmt := topS 56
theorem sc_law : FnScope ["script", "place", "pot", "sizes", "many", "most", "elder", "slip", "mine", "state"] ["script"] (defScope s_law) := ⟨rfl, rfl, rfl, by decide +kernel, rfl, by decide +kernel, by decide +kernel⟩
def f_law (n__law_choose : Fn) (n__law_is_slip_right : Fn) (n__law_of : Fn) (n__law_places : Fn) (n__law_pot : Fn) (n__law_take : Fn) : FS := (fSeq (fFor (fiSeq (fCall [false, false] n__law_places (flCons (fLv 0) (flCons (fLd (fC (.int 3))) flNil)))) (setE 1)
    (fSeq (fSetO 2 (fCallF [false, false] n__law_pot (flCons (fLv 0) (flCons (fLv 1) flNil))))
    (fSeq (fSet 3 (fLst (faCons (fTup (faCons (fC (.int 1)) (faCons (fC (.int 9)) faNil))) (faCons (fTup (faCons (fC (.int 1)) (faCons (fC (.int 5)) faNil))) (faCons (fTup (faCons (fC (.int 2)) (faCons (fC (.int 6)) faNil))) (faCons (fTup (faCons (fC (.int 2)) (faCons (fC (.int 9)) faNil))) (faCons (fTup (faCons (fC (.int 3)) (faCons (fC (.int 6)) faNil))) (faCons (fTup (faCons (fC (.int 3)) (faCons (fC (.int 8)) faNil))) (faCons (fTup (faCons (fC (.int 4)) (faCons (fC (.int 6)) faNil))) (faCons (fTup (faCons (fC (.int 4)) (faCons (fC (.int 7)) faNil))) (faCons (fTup (faCons (fC (.int 5)) (faCons (fC (.int 6)) faNil))) (faCons (fTup (faCons (fC (.int 6)) (faCons (fC (.int 8)) faNil))) (faCons (fTup (faCons (fC (.int 7)) (faCons (fC (.int 9)) faNil))) (faCons (fTup (faCons (fC (.int 0)) (faCons (fC (.int 3)) faNil))) (faCons (fTup (faCons (fC (.int 3)) (faCons (fC (.int 3)) faNil))) faNil)))))))))))))))
    (fSeq (fAsg (fCall [true, false] n__law_of (flCons (fLv 2) (flCons (fLv 3) flNil))) (fgTup (fgCons (setE 4) (fgCons (setE 5) fgNil)) 2))
    (fSeq (fSet 6 (fC .non))
    (fFor (fiSeq (fLst (faCons (fC (.int 0)) (faCons (fOp2 gAdd (fLd (fC (.int 1))) (fLd (fB gInt (flCons (fLd (fCall [true, false] n__law_take (flCons (fLv 2) (flCons (fLd (fC (.int 2))) flNil)))) flNil)))) (faCons (fOp2 gAdd (fLd (fC (.int 3))) (fLd (fB gInt (flCons (fLd (fCall [true, false] n__law_take (flCons (fLv 2) (flCons (fLd (fC (.int 3))) flNil)))) flNil)))) faNil))))) (setE 7)
    (fSeq (fSet 8 (fCall [true, false, false, false] n__law_is_slip_right (flCons (fLv 2) (flCons (fLv 4) (flCons (fLv 5) (flCons (fLv 7) flNil))))))
    (fSeq (fIf (ftOr (fTest (fOp2 gIs (fLv 8) (fLd (fC .non)))) (ftAnd (fTest (fOp2 gIsNot (fLv 6) (fLd (fC .non)))) (ftNot (fTest (fB gAll (flCons (fLd (fComp (fiSeq (fVar 8)) (setE 9) fYes (fOp2 gIn (fLv 9) (fLv 6)) [9])) flNil))))))
    (fRet (fC (.bl false)))
    fSkip)
    (fSeq (fIf (ftAnd (fTest (fOp2 gEq (fLv 7) (fLd (fC (.int 0))))) (fTest (fOp2 gNe (fLd (fB gLen (flCons (fLv 8) flNil))) (fLd (fCall [false, false] n__law_choose (flCons (fLv 5) (flCons (fLv 4) flNil)))))))
    (fRet (fC (.bl false)))
    fSkip)
    (fSet 6 (fVar 8)))))))))))
    (fRet (fC (.bl true))))
theorem w_law {fa : Addr} {fd : FuncData} (F : Fun K "law" "law" s_law fa fd) {a__law_choose : Addr} {d__law_choose : FuncData} {n__law_choose : Fn} (h__law_choose : Has P w K mg base 1 "_law_choose" ["many", "some"] [false, false] n__law_choose a__law_choose d__law_choose) {a__law_is_slip_right : Addr} {d__law_is_slip_right : FuncData} {n__law_is_slip_right : Fn} (h__law_is_slip_right : Has P w K mg base 8 "_law_is_slip_right" ["pot", "many", "most", "slip"] [true, false, false, false] n__law_is_slip_right a__law_is_slip_right d__law_is_slip_right) {a__law_of : Addr} {d__law_of : FuncData} {n__law_of : Fn} (h__law_of : Has P w K mg base 2 "_law_of" ["pot", "some"] [true, false] n__law_of a__law_of d__law_of) {a__law_places : Addr} {d__law_places : FuncData} {n__law_places : Fn} (h__law_places : Has P w K mg base 1 "_law_places" ["script", "most"] [false, false] n__law_places a__law_places d__law_places) {a__law_pot : Addr} {d__law_pot : FuncData} {n__law_pot : Fn} (h__law_pot : Has P w K mg base 1 "_law_pot" ["script", "place"] [false, false] n__law_pot a__law_pot d__law_pot) {a__law_take : Addr} {d__law_take : FuncData} {n__law_take : Fn} (h__law_take : Has P w K mg base 1 "_law_take" ["pot", "upto"] [true, false] n__law_take a__law_take d__law_take) (m_all : mg "all" = none) (m_int : mg "int" = none) (m_len : mg "len" = none) : FnG P w K mg base CX0 9 fa fd ["script"] (spD K [false] (runD [false] 9 (f_law n__law_choose n__law_is_slip_right n__law_of n__law_places n__law_pot n__law_take))) := by
  refine okD F sc_law rfl rfl fun cdv A out s H E hg hr => ?_
  exact (dss_cons (ds_for PassesOwn.never rfl (di_seq (de_call (h__law_places.go.mono (by decide)) hg hr (by rfl) h__law_places.m h__law_places.kp h__law_places.b (dls_cons (dl_var 0) (dls_cons (dl_of de_int) dls_nil)))) (dg_name (i := 1) sc_law.nd rfl (by first | exact .inl rfl | exact .inr rfl))
    (dss_cons (ds_setO (i := 2) sc_law.nd rfl (by first | exact .inl rfl | exact .inr rfl) (df_call (h__law_pot.go.mono (by decide)) hg hr (by rfl) h__law_pot.m h__law_pot.kp h__law_pot.b (dls_cons (dl_var 0) (dls_cons (dl_var 1) dls_nil))))
    (dss_cons (ds_set (i := 3) sc_law.nd rfl (by first | exact .inl rfl | exact .inr rfl) (PE.ofF (df_lst (da_cons (de_tup (da_cons de_int (da_cons de_int da_nil))) (da_cons (de_tup (da_cons de_int (da_cons de_int da_nil))) (da_cons (de_tup (da_cons de_int (da_cons de_int da_nil))) (da_cons (de_tup (da_cons de_int (da_cons de_int da_nil))) (da_cons (de_tup (da_cons de_int (da_cons de_int da_nil))) (da_cons (de_tup (da_cons de_int (da_cons de_int da_nil))) (da_cons (de_tup (da_cons de_int (da_cons de_int da_nil))) (da_cons (de_tup (da_cons de_int (da_cons de_int da_nil))) (da_cons (de_tup (da_cons de_int (da_cons de_int da_nil))) (da_cons (de_tup (da_cons de_int (da_cons de_int da_nil))) (da_cons (de_tup (da_cons de_int (da_cons de_int da_nil))) (da_cons (de_tup (da_cons de_int (da_cons de_int da_nil))) (da_cons (de_tup (da_cons de_int (da_cons de_int da_nil))) da_nil))))))))))))))))
    (dss_cons (ds_asg (de_call (h__law_of.go.mono (by decide)) hg hr (by rfl) h__law_of.m h__law_of.kp h__law_of.b (dls_cons (dl_var 2) (dls_cons (dl_var 3) dls_nil))) (dg_tup rfl (dgs_cons (dg_name (i := 4) sc_law.nd rfl (by first | exact .inl rfl | exact .inr rfl)) (dgs_cons (dg_name (i := 5) sc_law.nd rfl (by first | exact .inl rfl | exact .inr rfl)) dgs_nil))))
    (dss_cons (ds_set (i := 6) sc_law.nd rfl (by first | exact .inl rfl | exact .inr rfl) de_non)
    (dss_one (ds_for PassesOwn.never rfl (di_seq (PE.ofF (df_lst (da_cons de_int (da_cons (de_bin op_addA g_add (dl_of de_int) (dl_of (de_callT call_int1 g_int (by rfl) m_int b_int (dls_cons (dl_of (de_call (h__law_take.go.mono (by decide)) hg hr (by rfl) h__law_take.m h__law_take.kp h__law_take.b (dls_cons (dl_var 2) (dls_cons (dl_of de_int) dls_nil)))) dls_nil)))) (da_cons (de_bin op_addA g_add (dl_of de_int) (dl_of (de_callT call_int1 g_int (by rfl) m_int b_int (dls_cons (dl_of (de_call (h__law_take.go.mono (by decide)) hg hr (by rfl) h__law_take.m h__law_take.kp h__law_take.b (dls_cons (dl_var 2) (dls_cons (dl_of de_int) dls_nil)))) dls_nil)))) da_nil)))))) (dg_name (i := 7) sc_law.nd rfl (by first | exact .inl rfl | exact .inr rfl))
    (dss_cons (ds_set (i := 8) sc_law.nd rfl (by first | exact .inl rfl | exact .inr rfl) (de_call (h__law_is_slip_right.go.mono (by decide)) hg hr (by rfl) h__law_is_slip_right.m h__law_is_slip_right.kp h__law_is_slip_right.b (dls_cons (dl_var 2) (dls_cons (dl_var 4) (dls_cons (dl_var 5) (dls_cons (dl_var 7) dls_nil))))))
    (dss_cons (ds_if (PW.pt (dw_or (dt_cmp op_isA g_is (dl_var 8) (dl_of de_non) (nomark _)) (dw_or1 (PW.pt (dw_and (dt_cmp op_isNotA g_isNot (dl_var 6) (dl_of de_non) (nomark _)) (dw_and1 (dt_not (dt_val (de_callB (cr_all rfl) g_all (by rfl) m_all b_all (dls_cons (dl_of (PE.ofF (df_comp rfl sc_law.nd (di_seq (de_var 8)) (blkOk_by (own := [("state", 9)]) (by kernel_rfl)) (by decide) (fun _ _ _ _ _ => (dg_name (i := 9) sc_law.nd rfl (by first | exact .inl rfl | exact .inr rfl))) (fun _ _ _ _ _ => dts_nil) (fun _ _ _ _ _ => (de_cmp (op_inA (u65 hr)) g_in (dl_var 9) (dl_var 6) (by with_unfolding_all rfl)))))) dls_nil))))))))))
    (dss_one (ds_ret de_bl))
    dss_nil)
    (dss_cons (ds_if (PW.pt (dw_and (dt_cmp (op_eqA (u64 hr)) g_eq (dl_var 7) (dl_of de_int) (nomark _)) (dw_and1 (dt_cmp (op_neA (u64 hr)) g_ne (dl_of (de_callB call_len g_len (by rfl) m_len b_len (dls_cons (dl_var 8) dls_nil))) (dl_of (de_call (h__law_choose.go.mono (by decide)) hg hr (by rfl) h__law_choose.m h__law_choose.kp h__law_choose.b (dls_cons (dl_var 5) (dls_cons (dl_var 4) dls_nil)))) (nomark _)))))
    (dss_one (ds_ret de_bl))
    dss_nil)
    (dss_one (ds_set (i := 6) sc_law.nd rfl (by first | exact .inl rfl | exact .inr rfl) (de_var 8)))))))))))))
    (dss_one (ds_ret de_bl)))
def N_law : Fn := runD [false] 9 (f_law N__law_choose N__law_is_slip_right N__law_of N__law_places N__law_pot N__law_take)
end
end Law
/-! Readings evaluated, by plain lemmas. -/
namespace DL
open PySem PySem.Spec PyProof.Rows L2

/-- fn gives r (whatever its slots hold at the end) -/
def Gives (fn : Fn) (ds : List D) (fr : Bool) (r : D) : Prop := ∃ o, fn ds = some (fr, r, o)
theorem gives_run {ms : List Bool} {n : Nat} {f : FS} {ds : List D} {fr : Bool} {r : D} {e : En} (hl : ds.length = ms.length) (h : f (env0 ms ds n) = some (.rt fr r e)) : Gives (runD ms n f) ds fr r := by
  refine ⟨e.map dOf, ?_⟩
  unfold runD
  rw [if_pos hl, h]
theorem gives_nx {ms : List Bool} {n : Nat} {f : FS} {ds : List D} {e : En} (hl : ds.length = ms.length) (h : f (env0 ms ds n) = some (.nx e)) : Gives (runD ms n f) ds false .non := by
  refine ⟨e.map dOf, ?_⟩
  unfold runD
  rw [if_pos hl, h]

/-! ### a simpler function in place of a def's -/
theorem no_some {H : Hp} {A : Ax} {vs : List V} {ms : List Bool} {ds : List D} {as : List (Option Addr)} (h : ArgsOk H A vs ms ds as) (hm : ∀ m ∈ ms, m = false) : ∀ (i : Nat) (a : Addr), as[i]? ≠ some (some a) := by
  induction h with
  | nil => intro i a; simp
  | val _ _ ih =>
    intro i a
    cases i with
    | zero => simp
    | succ i => simpa using ih (fun m h => hm m (List.mem_cons_of_mem _ h)) i a
  | io _ _ _ => exact absurd (hm true List.mem_cons_self) (by decide)
theorem spD_to {K : PySem.W.Frag} {ms : List Bool} {f g : Fn} (hm : ∀ m ∈ ms, m = false) (h : ∀ ds fr r o, g ds = some (fr, r, o) → Gives f ds fr r) {vs : List V} {H : Hp} {Q : VK} {E : XK} (q : spD K ms g vs H Q E) : spD K ms f vs H Q E := by
  obtain ⟨B, ds, as, fr, r, outs, hK, h1, nd, ap, bd, hg, q⟩ := q
  obtain ⟨o, hf⟩ := h ds fr r outs hg
  have no := no_some h1 hm
  refine ⟨B, ds, as, fr, r, o, hK, h1, nd, ap, bd, hf, fun v H' k d ro => q v H' k d ?_⟩
  have oo : ∀ {H A} (outs : List D), OutsOk H A as outs := fun outs i a z => absurd z (no i a)
  cases fr with
  | false => exact ⟨oo _, ro.2⟩
  | true => obtain ⟨a, h1, h2, _, h4⟩ := ro; exact ⟨a, h1, h2, oo _, h4⟩
theorem FnG.to {P : Program} {w : World} {K : PySem.W.Frag} {mg : Str → Option Value} {base : Heap} {k : Nat} {fa : Addr} {fd : FuncData} {ps : List Str} {ms : List Bool} {f g : Fn} (F : FnG P w K mg base CX0 k fa fd ps (spD K ms f)) (hm : ∀ m ∈ ms, m = false) (h : ∀ ds fr r o, g ds = some (fr, r, o) → Gives f ds fr r) :
    FnG P w K mg base CX0 k fa fd ps (spD K ms g) :=
  ⟨fun vs H Q E q => F.n vs H Q E (spD_to hm h q), fun A out s H as us vs Q E hg hr e0 hb r q => F.go A out s H as us vs Q E hg hr e0 hb r (spD_to hm h q)⟩

/-! ### comprehensions whose items change nothing -/
theorem compD_on {α : Type} {ι : α → D} {g : FG} {t : FT} {f : FE} {vs : List Nat} {env : En} {p : α → Bool} {φ : α → D} {e : α → En} : ∀ {xs : List α}, (∀ x ∈ xs, g (ι x) env = some (e x) ∧ t (e x) = some (p x, e x) ∧ mineAll (e x) vs = true ∧ wipeE (e x) vs = env ∧ (p x = true → f (e x) = some (φ x, e x))) →
    compD g t f vs (xs.map ι) env = some ((xs.filter p).map φ, env)
  | [], _ => rfl
  | x :: xs, h => by
    obtain ⟨h1, h2, h3, h4, h5⟩ := h x List.mem_cons_self
    have ih := compD_on (xs := xs) fun y hy => h y (List.mem_cons_of_mem _ hy)
    rw [List.map_cons]
    unfold compD
    simp only [h1, h2]
    cases hp : p x with
    | false =>
      simp only [h3, h4, if_true]
      rw [ih, List.filter_cons_of_neg (by rw [hp]; exact Bool.false_ne_true)]
    | true =>
      simp only [h5 hp, h3, h4, if_true]
      rw [ih, List.filter_cons_of_pos hp]
      rfl
theorem fComp_on {α : Type} {ι : α → D} {xs : List α} (p : α → Bool) (φ : α → D) (e : α → En) {fi : FI} {g : FG} {t : FT} {f : FE} {vs : List Nat} {env env1 env2 : En} (h0 : fi env = some (xs.map ι, env1)) (hl : xs.length ≤ mx) (hm : mineAll env1 vs = true) (hm2 : mineAll (wipeE env1 vs) vs = true) (hr : restE env1 (wipeE env1 vs) vs = env2)
    (h : ∀ x ∈ xs, g (ι x) (wipeE env1 vs) = some (e x) ∧ t (e x) = some (p x, e x) ∧ mineAll (e x) vs = true ∧ wipeE (e x) vs = wipeE env1 vs ∧ (p x = true → f (e x) = some (φ x, e x))) : fComp fi g t f vs env = some (.lst ((xs.filter p).map φ), env2) := by
  unfold fComp
  rw [h0]
  simp only
  rw [if_pos ⟨by rw [List.length_map]; exact hl, hm⟩, compD_on h]
  simp only
  rw [if_pos hm2, hr]
/-- .. all items -/
theorem fComp_all {α : Type} {ι : α → D} {xs : List α} (φ : α → D) (e : α → En) {fi : FI} {g : FG} {f : FE} {vs : List Nat} {env env1 env2 : En} (h0 : fi env = some (xs.map ι, env1)) (hl : xs.length ≤ mx) (hm : mineAll env1 vs = true) (hm2 : mineAll (wipeE env1 vs) vs = true) (hr : restE env1 (wipeE env1 vs) vs = env2)
    (h : ∀ x ∈ xs, g (ι x) (wipeE env1 vs) = some (e x) ∧ mineAll (e x) vs = true ∧ wipeE (e x) vs = wipeE env1 vs ∧ f (e x) = some (φ x, e x)) : fComp fi g fYes f vs env = some (.lst (xs.map φ), env2) := by
  have := fComp_on (p := fun _ => true) φ e h0 hl hm hm2 hr (t := fYes) (f := f) (g := g) fun x hx => let ⟨a, b, c, d⟩ := h x hx; ⟨a, rfl, b, c, fun _ => d⟩
  rw [List.filter_eq_self.mpr fun _ _ => rfl] at this
  exact this
/-- a call of a def that writes none of its arguments -/
theorem fCall_gives {ms : List Bool} {fn : Fn} {fs : FLs} {env e : En} {ls : List LV} {ds : List D} {fr : Bool} {r : D} (hm : ∀ m ∈ ms, m = false) (h1 : fs env = some (ls, e)) (h2 : argsOf ms ls e = some ds) (h3 : Gives fn ds fr r) : fCall ms fn fs env = some (r, e) := by
  obtain ⟨o, h3⟩ := h3
  have no : ∀ {ms : List Bool} {ls : List LV}, (∀ m ∈ ms, m = false) → iosOf ms ls = [] ∧ ∀ os env, putOuts ms ls os env = env := by
    intro ms
    induction ms with
    | nil => intro ls _; exact ⟨by simp [iosOf], fun os env => by simp [putOuts]⟩
    | cons m ms ih =>
      intro ls hm
      have e : m = false := hm m List.mem_cons_self
      subst e
      cases ls with
      | nil => exact ⟨rfl, fun os env => by simp [putOuts]⟩
      | cons l ls =>
        obtain ⟨i1, i2⟩ := ih (ls := ls) fun m h => hm m (List.mem_cons_of_mem _ h)
        refine ⟨by cases l <;> exact i1, fun os env => ?_⟩
        cases os with
        | nil => cases l <;> simp [putOuts]
        | cons o os => cases l <;> exact i2 os env
  unfold fCall
  rw [h1]
  simp only
  rw [h2]
  simp only
  rw [if_pos (by rw [(no hm).1]; exact List.nodup_nil), h3]
  simp only
  rw [(no hm).2]
theorem ints?_int (ns : List Int) : ints? (ns.map D.int) = some ns := ints?_map ns
end DL
namespace DL
open PySem PySem.Spec PyProof.Rows L2

/-- data that == and repr take, k deep -/
def Flat (k : Nat) (d : D) : Prop := (py d).canLay0 = true ∧ (py d).depth ≤ k
theorem Flat.mono {j k : Nat} {d : D} (h : Flat j d) (hk : j ≤ k) : Flat k d := ⟨h.1, Nat.le_trans h.2 hk⟩
theorem flat_all {k : Nat} : ∀ {ds : List D}, (∀ d ∈ ds, Flat k d) → PyData.canLayAll0 (pys ds) = true ∧ PyData.depthAll (pys ds) ≤ k
  | [], _ => ⟨rfl, Nat.zero_le _⟩
  | d :: ds, h => by
    obtain ⟨h1, h2⟩ := h d List.mem_cons_self
    obtain ⟨i1, i2⟩ := flat_all (ds := ds) fun x hx => h x (List.mem_cons_of_mem _ hx)
    rw [pys]
    refine ⟨by rw [PyData.canLayAll0, h1, i1]; rfl, ?_⟩
    rw [PyData.depthAll]
    exact Nat.max_le.mpr ⟨h2, i2⟩
theorem flat_lst {k : Nat} {ds : List D} (h : ∀ d ∈ ds, Flat k d) : Flat (k + 1) (.lst ds) := by
  obtain ⟨h1, h2⟩ := flat_all h
  exact ⟨by rw [py, PyData.canLay0]; exact h1, by rw [py, PyData.depth]; omega⟩
theorem flat_tup {k : Nat} {ds : List D} (h : ∀ d ∈ ds, Flat k d) : Flat (k + 1) (.tup ds) := by
  obtain ⟨h1, h2⟩ := flat_all h
  exact ⟨by rw [py, PyData.canLay0]; exact h1, by rw [py, PyData.depth]; omega⟩
theorem flat_ptp {k : Nat} {ds : List D} (h : ∀ d ∈ ds, Flat k d) : Flat (k + 1) (.ptp ds) := by
  obtain ⟨h1, h2⟩ := flat_all h
  exact ⟨by rw [py, PyData.canLay0]; exact h1, by rw [py, PyData.depth]; omega⟩
theorem flat_int (i : Int) : Flat 0 (.int i) := ⟨rfl, Nat.le_refl _⟩
theorem flat_non : Flat 0 .non := ⟨rfl, Nat.le_refl _⟩
theorem flat_bl (b : Bool) : Flat 0 (.bl b) := ⟨rfl, Nat.le_refl _⟩
theorem Flat.shaped {k : Nat} {d : D} (h : Flat k d) (hk : k ≤ 64) : SeqAt.shaped (py d) = true := by
  unfold SeqAt.shaped
  rw [h.1, decide_eq_true (Nat.le_trans h.2 hk)]
  rfl
theorem flatD_ints {ns : List Int} : ∀ d ∈ ns.map D.int, Flat 0 d := fun d h => by
  obtain ⟨i, _, rfl⟩ := List.mem_map.mp h
  exact flat_int i
theorem flat_tupI (ns : List Int) : Flat 1 (tupI ns) := flat_tup flatD_ints
theorem inB_tup (i : Int) (ns : List Int) : gInB (.int i) (tupI ns) = some (ns.any fun n => n == i) := by
  unfold gInB tupI
  simp only [ints?_map, Option.map_some]
theorem inB_lst (i : Int) (ns : List Int) : gInB (.int i) (.lst (ns.map D.int)) = some (ns.any fun n => n == i) := by
  have h1 := (flat_int i).shaped (by decide)
  have h2 := (flat_lst (k := 0) (ds := ns.map D.int) flatD_ints).shaped (by decide)
  rw [py] at h2
  unfold gInB
  simp only [h1, h2, Bool.and_self, if_true]
  unfold inD
  rw [List.any_map]
  rfl
theorem sortedD_ints (ns : List Int) : gSorted [.lst (ns.map D.int)] = some (.lst ((sortI ns).map D.int)) := by
  unfold gSorted
  simp only [ints?_map]
theorem op2_of {g : D → D → Option D} {fa fb : FL} {env e1 e2 : En} {la lb : LV} {a b d : D} (h1 : fa env = some (la, e1)) (h2 : fb e1 = some (lb, e2)) (h3 : res e2 la = some a) (h4 : res e2 lb = some b) (h5 : g a b = some d) : fOp2 g fa fb env = some (d, e2) := by
  unfold fOp2
  simp only [h1, h2, h3, h4, h5, Option.map_some]
theorem test_of' {f : FE} {env e : En} {k : Bool} (h : f env = some (.bl k, e)) : fTest f env = some (k, e) := by
  unfold fTest
  rw [h]
theorem test_op2 {g : D → D → Option D} {fa fb : FL} {env e1 e2 : En} {la lb : LV} {a b : D} {k : Bool} (h1 : fa env = some (la, e1)) (h2 : fb e1 = some (lb, e2)) (h3 : res e2 la = some a) (h4 : res e2 lb = some b) (h5 : g a b = some (.bl k)) : fTest (fOp2 g fa fb) env = some (k, e2) := test_of' (op2_of h1 h2 h3 h4 h5)
theorem notIn_tup (i : Int) (ns : List Int) : gNotIn (.int i) (tupI ns) = some (.bl (!ns.any fun n => n == i)) := by
  unfold gNotIn
  rw [inB_tup]
  rfl
theorem in_tup (i : Int) (ns : List Int) : gIn (.int i) (tupI ns) = some (.bl (ns.any fun n => n == i)) := by
  unfold gIn
  rw [inB_tup]
  rfl
theorem tup_ix (ns : List Int) (i : Int) : gIx (tupI ns) (.int i) = (atI (ns.map D.int) i) := rfl
end DL
namespace Law
open PySem L2 DL

def oD : Option (List Int) → D
  | none => .non
  | some s => tupI s
def restO (s : List Int) : List Int := (s.filter fun b => decide (0 < b)).map (· - 1)
def behindO (s : List Int) (h : Int) : Option (List Int) :=
  if s.any (fun n => n == 0) = false then (if h = 0 then some (restO s) else none)
  else if h = 0 ∨ (restO s).any (fun n => n == h - 1) = true then none else some (sortI (restO s ++ [h - 1]))
theorem sp_behind_of (s : List Int) (h : Int) (hs : s.length ≤ 1000) : Gives N_behind_of [tupI s, .int h] false (oD (behindO s h)) := by
  have c : fComp (fiSeq (fVar 0)) (setE 3) (fTest (fOp2 gGt (fLv 3) (fLd (fC (.int 0))))) (fOp2 DL.gSub (fLv 3) (fLd (fC (.int 1)))) [3] [.val (tupI s), .val (.int h), .un, .un] = some (.lst ((restO s).map D.int), [.val (tupI s), .val (.int h), .un, .un]) := by
    have := fComp_on (ι := D.int) (xs := s) (fun b => decide (0 < b)) (fun b => .int (b - 1)) (fun b => [.val (tupI s), .val (.int h), .un, .val (.int b)]) (fi := fiSeq (fVar 0)) (g := setE 3) (t := fTest (fOp2 gGt (fLv 3) (fLd (fC (.int 0))))) (f := fOp2 DL.gSub (fLv 3) (fLd (fC (.int 1)))) (vs := [3]) (env := [.val (tupI s), .val (.int h), .un, .un]) rfl (Nat.le_trans hs (by decide)) rfl rfl rfl fun x _ => ⟨rfl, rfl, rfl, rfl, fun _ => rfl⟩
    rw [this]
    unfold restO
    rw [List.map_map]
    rfl
  have run : ∀ r, f_behind_of [.val (tupI s), .val (.int h), .un, .un] = some (.rt false r [.val (tupI s), .val (.int h), .val (.lst ((restO s).map D.int)), .un]) → Gives N_behind_of [tupI s, .int h] false r := fun r e => gives_run rfl e
  refine run _ ?_
  unfold f_behind_of fSeq fSet
  rw [c]
  unfold behindO
  by_cases h0 : s.any (fun n => n == 0) = false
  · rw [if_pos h0]
    by_cases hh : h = 0
    · rw [if_pos hh]
      simp [setE, fIf, fTest, fOp2, fLd, fC, fLv, res, gNotIn, inB_tup, h0, fRet, feIf, gEq, gEqB, hh, fB, flCons, flNil, ress, gTuple, oD]
      rfl
    · rw [if_neg hh]
      simp [setE, fIf, fTest, fOp2, fLd, fC, fLv, res, gNotIn, inB_tup, h0, fRet, feIf, gEq, gEqB, hh, fB, flCons, flNil, ress, gTuple, oD]
  · rw [if_neg h0]
    have h0' : s.any (fun n => n == 0) = true := by simpa using h0
    by_cases hh : h = 0
    · rw [if_pos (.inl hh)]
      simp [setE, fIf, fTest, fOp2, fLd, fC, fLv, res, gNotIn, inB_tup, h0', fRet, feIf, gEq, gEqB, hh, fB, flCons, flNil, ress, gTuple, oD, fSkip, ftOr]
    · by_cases hm : (restO s).any (fun n => n == h - 1) = true
      · rw [if_pos (.inr hm)]
        simp [setE, fIf, fTest, fOp2, fLd, fC, fLv, res, gNotIn, gIn, inB_tup, inB_lst, h0', fRet, feIf, gEq, gEqB, hh, hm, fB, flCons, flNil, ress, gTuple, oD, fSkip, ftOr, DL.gSub]
      · rw [if_neg (fun z => z.elim hh hm)]
        have hm' : (restO s).any (fun n => n == h - 1) = false := Bool.eq_false_iff.mpr hm
        simp [setE, fIf, fTest, fOp2, fLd, fC, fLv, res, gNotIn, gIn, inB_tup, inB_lst, h0', fRet, feIf, gEq, gEqB, hh, hm', fB, flCons, flNil, ress, gTuple, oD, fSkip, ftOr, DL.gSub, fLst, faStar, faCons, faNil, seqOf]
        have hr : (restO s).length + 1 ≤ mx := by
          have : (restO s).length ≤ s.length := by unfold restO; rw [List.length_map]; exact List.length_filter_le _ _
          exact Nat.le_trans (by omega) (show 1001 ≤ mx by decide)
        rw [if_pos hr, show (restO s).map D.int ++ [D.int (h - 1)] = (restO s ++ [h - 1]).map D.int by simp]
        simp only [ress, res, Option.map_some]
        rw [sortedD_ints]
        rfl
end Law
namespace Law
open PySem L2 DL

/-- a simple function: no def's slots are told -/
def Sf (fr : Bool) (g : List D → Option D) : Fn := fun ds => (g ds).map fun r => (fr, r, [])
theorem sf_to {fr : Bool} {g : List D → Option D} {f : Fn} (h : ∀ ds r, g ds = some r → Gives f ds fr r) : ∀ ds fr' r o, Sf fr g ds = some (fr', r, o) → Gives f ds fr' r := by
  intro ds fr' r o e
  unfold Sf at e
  cases q : g ds with
  | none => rw [q] at e; cases e
  | some d =>
    rw [q] at e
    cases e
    exact h ds _ q
theorem sf_gives {fr : Bool} {g : List D → Option D} {ds : List D} {r : D} (h : g ds = some r) : Gives (Sf fr g) ds fr r := ⟨[], by unfold Sf; rw [h]; rfl⟩
/-- a state, short enough -/
def st? : D → Option (List Int)
  | .tup ds => (ints? ds).bind fun s => if s.length ≤ 1000 then some s else none
  | _ => none
theorem st?_of {d : D} {s : List Int} (h : st? d = some s) : d = tupI s ∧ s.length ≤ 1000 := by
  unfold st? at h
  split at h
  · rename_i ds
    cases e : ints? ds with
    | none => rw [e] at h; cases h
    | some ns =>
      rw [e] at h
      simp only [Option.bind_some] at h
      split at h
      · cases h
        exact ⟨by rw [of_ints? e]; rfl, by assumption⟩
      · cases h
  · cases h
theorem st?_tupI {s : List Int} (h : s.length ≤ 1000) : st? (tupI s) = some s := by
  unfold st? tupI
  simp only [ints?_map, Option.bind_some, if_pos h]
def S_behind_of : Fn := Sf false fun ds => match ds with
  | [d, .int h] => (st? d).map fun s => oD (behindO s h)
  | _ => none
theorem to_behind_of : ∀ ds fr r o, S_behind_of ds = some (fr, r, o) → Gives N_behind_of ds fr r := by
  refine sf_to fun ds r e => ?_
  split at e
  · rename_i d h
    cases q : st? d with
    | none => rw [q] at e; cases e
    | some s =>
      rw [q] at e
      cases e
      obtain ⟨rfl, hl⟩ := st?_of q
      exact sp_behind_of s h hl
  · cases e
theorem g_behind_of (s : List Int) (h : Int) (hs : s.length ≤ 1000) : Gives S_behind_of [tupI s, .int h] false (oD (behindO s h)) := sf_gives (by simp only [st?_tupI hs, Option.map_some])
/-! ### slipped -/
def rngI (a b : Int) : List Int := (List.range (b - a).toNat).map fun i => a + (i : Nat)
theorem rngD_is (a b : Int) : rngD a (b - a).toNat = (rngI a b).map D.int := by
  unfold rngD rngI
  rw [List.map_map]
  rfl
theorem rngI_len (a b : Int) : (rngI a b).length = (b - a).toNat := by unfold rngI; rw [List.length_map, List.length_range]
def mxI (a b : Int) : Int := if b > a then b else a
def mnI (a b : Int) : Int := if b < a then b else a
def endsO (s : List Int) (h m p : Int) : List (Option (List Int)) := if h = 0 then [behindO s 0] else (rngI (mxI 1 (h - p)) (mnI m (h + p) + 1)).map (behindO s)
theorem sp_slipped (s : List Int) (h m p : Int) (hs : s.length ≤ 1000) (hh : 0 ≤ h ∧ h ≤ 1000) (hm : 0 ≤ m ∧ m ≤ 1000) (hp : 0 ≤ p ∧ p ≤ 1000) : Gives (runD [false, false, false, false] 3 (f_slipped S_behind_of)) [tupI s, .int h, .int m, .int p] true (.lst ((endsO s h m p).map oD)) := by
  have run : ∀ r e, f_slipped S_behind_of [.val (tupI s), .val (.int h), .val (.int m), .val (.int p), .un, .un, .un] = some (.rt true r e) → Gives (runD [false, false, false, false] 3 (f_slipped S_behind_of)) [tupI s, .int h, .int m, .int p] true r := fun r e q => gives_run rfl q
  by_cases h0 : h = 0
  · subst h0
    refine run _ [.val (tupI s), .val (.int 0), .val (.int m), .val (.int p), .un, .un, .un] ?_
    have c : fCall [false, false] S_behind_of (flCons (fLv 0) (flCons (fLd (fC (.int 0))) flNil)) [.val (tupI s), .val (.int 0), .val (.int m), .val (.int p), .un, .un, .un] = some (oD (behindO s 0), [.val (tupI s), .val (.int 0), .val (.int m), .val (.int p), .un, .un, .un]) :=
      fCall_gives (by decide) rfl rfl (g_behind_of s 0 hs)
    unfold f_slipped fSeq
    have t : fTest (fOp2 gEq (fLv 1) (fLd (fC (.int 0)))) [.val (tupI s), .val (.int 0), .val (.int m), .val (.int p), .un, .un, .un] = some (true, [.val (tupI s), .val (.int 0), .val (.int m), .val (.int p), .un, .un, .un]) := rfl
    simp only [fIf, t, fRetF, fLst, faCons, c, faNil, Option.map_some]
    rfl
  · refine run _ [.val (tupI s), .val (.int h), .val (.int m), .val (.int p), .val (.int (mxI 1 (h - p))), .val (.int (mnI m (h + p))), .un] ?_
    have t : fTest (fOp2 gEq (fLv 1) (fLd (fC (.int 0)))) [.val (tupI s), .val (.int h), .val (.int m), .val (.int p), .un, .un, .un] = some (false, [.val (tupI s), .val (.int h), .val (.int m), .val (.int p), .un, .un, .un]) := by
      simp [fTest, fOp2, fLv, fLd, fC, res, gEq, gEqB, h0]
    have b : fPar [4, 5] (fmVal (fB gMax (flCons (fLd (fC (.int 1))) (flCons (fLd (fOp2 DL.gSub (fLv 1) (fLv 3))) flNil))) (fmVal (fB gMin (flCons (fLv 2) (flCons (fLd (fOp2 DL.gAdd (fLv 1) (fLv 3))) flNil))) fmNil)) [.val (tupI s), .val (.int h), .val (.int m), .val (.int p), .un, .un, .un]
        = some (.nx [.val (tupI s), .val (.int h), .val (.int m), .val (.int p), .val (.int (mxI 1 (h - p))), .val (.int (mnI m (h + p))), .un]) := rfl
    have bd : (mnI m (h + p) + 1 - mxI 1 (h - p)).toNat ≤ 1000 ∧ -1000 ≤ mxI 1 (h - p) ∧ mxI 1 (h - p) ≤ 1000 ∧ -1000 ≤ mnI m (h + p) ∧ mnI m (h + p) ≤ 1000 := by
      unfold mxI mnI
      split <;> split <;> omega
    have c := fComp_all (ι := D.int) (xs := rngI (mxI 1 (h - p)) (mnI m (h + p) + 1)) (fun o => oD (behindO s o)) (fun o => [.val (tupI s), .val (.int h), .val (.int m), .val (.int p), .val (.int (mxI 1 (h - p))), .val (.int (mnI m (h + p))), .val (.int o)])
      (fi := fiRng2 (flCons (fLv 4) (flCons (fLd (fOp2 DL.gAdd (fLv 5) (fLd (fC (.int 1))))) flNil))) (g := setE 6) (f := fCall [false, false] S_behind_of (flCons (fLv 0) (flCons (fLv 6) flNil))) (vs := [6])
      (env := [.val (tupI s), .val (.int h), .val (.int m), .val (.int p), .val (.int (mxI 1 (h - p))), .val (.int (mnI m (h + p))), .un]) (env1 := [.val (tupI s), .val (.int h), .val (.int m), .val (.int p), .val (.int (mxI 1 (h - p))), .val (.int (mnI m (h + p))), .un]) (by
        show (if _ then some (rngD _ _, _) else none) = _
        rw [if_pos (by omega), rngD_is]) (Nat.le_trans (by rw [rngI_len]; omega) (show 1000 ≤ mx by decide)) rfl rfl rfl fun o _ => ⟨rfl, rfl, rfl, fCall_gives (by decide) rfl rfl (g_behind_of s o hs)⟩
    unfold f_slipped fSeq
    simp only [fIf, t, fSkip, b, fRetF, c, Option.map_some]
    unfold endsO
    rw [if_neg h0, List.map_map]
    rfl
end Law
namespace Law
open PySem L2 DL

def S_slipped : Fn := Sf true fun ds => match ds with
  | [d, .int h, .int m, .int p] => (st? d).bind fun s => if (0 ≤ h ∧ h ≤ 1000) ∧ (0 ≤ m ∧ m ≤ 1000) ∧ 0 ≤ p ∧ p ≤ 1000 then some (.lst ((endsO s h m p).map oD)) else none
  | _ => none
theorem to_slipped : ∀ ds fr r o, S_slipped ds = some (fr, r, o) → Gives (runD [false, false, false, false] 3 (f_slipped S_behind_of)) ds fr r := by
  refine sf_to fun ds r e => ?_
  split at e
  · rename_i d h m p
    cases q : st? d with
    | none => rw [q] at e; cases e
    | some s =>
      rw [q] at e
      simp only [Option.bind_some] at e
      split at e
      · rename_i hb
        cases e
        obtain ⟨rfl, hl⟩ := st?_of q
        exact sp_slipped s h m p hl hb.1 hb.2.1 hb.2.2
      · cases e
  · cases e
theorem g_slipped (s : List Int) (h m p : Int) (hs : s.length ≤ 1000) (hh : 0 ≤ h ∧ h ≤ 1000) (hm : 0 ≤ m ∧ m ≤ 1000) (hp : 0 ≤ p ∧ p ≤ 1000) : Gives S_slipped [tupI s, .int h, .int m, .int p] true (.lst ((endsO s h m p).map oD)) :=
  sf_gives (by simp only [st?_tupI hs, Option.bind_some]; rw [if_pos ⟨hh, hm, hp⟩])
/-! ### throws_of -/
def throwsO (s : List Int) (m : Int) : List Int := if s.any (fun n => n == 0) = false then [0] else (rngI 1 (m + 1)).filter fun h => !(s.any fun n => n == h)
theorem sp_throws_of (s : List Int) (m : Int) (hm : 0 ≤ m ∧ m ≤ 1000) : Gives N_throws_of [tupI s, .int m] true (.lst ((throwsO s m).map D.int)) := by
  have run : ∀ r e, f_throws_of [.val (tupI s), .val (.int m), .un] = some (.rt true r e) → Gives N_throws_of [tupI s, .int m] true r := fun r e q => gives_run rfl q
  have t : fTest (fOp2 gNotIn (fLd (fC (.int 0))) (fLv 0)) [.val (tupI s), .val (.int m), .un] = some (!(s.any fun n => n == 0), [.val (tupI s), .val (.int m), .un]) := test_op2 rfl rfl rfl rfl (notIn_tup 0 s)
  refine run _ [.val (tupI s), .val (.int m), .un] ?_
  unfold f_throws_of fSeq throwsO
  by_cases h0 : s.any (fun n => n == 0) = false
  · rw [if_pos h0]
    simp only [fIf, t, h0]
    rfl
  · rw [if_neg h0]
    have h1 : s.any (fun n => n == 0) = true := by simpa using h0
    have c := fComp_on (ι := D.int) (xs := rngI 1 (m + 1)) (fun h => !(s.any fun n => n == h)) (fun h => .int h) (fun h => [.val (tupI s), .val (.int m), .val (.int h)])
      (fi := fiRng2 (flCons (fLd (fC (.int 1))) (flCons (fLd (fOp2 DL.gAdd (fLv 1) (fLd (fC (.int 1))))) flNil))) (g := setE 2) (t := fTest (fOp2 gNotIn (fLv 2) (fLv 0))) (f := fVar 2) (vs := [2]) (env := [.val (tupI s), .val (.int m), .un]) (env1 := [.val (tupI s), .val (.int m), .un]) (by
        show (if _ then some (rngD _ _, _) else none) = _
        rw [if_pos (by omega), rngD_is]) (Nat.le_trans (by rw [rngI_len]; omega) (show 1000 ≤ mx by decide)) rfl rfl rfl fun h _ => ⟨rfl, test_op2 rfl rfl rfl rfl (notIn_tup h s), rfl, rfl, fun _ => rfl⟩
    simp only [fIf, t, h1, Bool.not_true, fSkip, fRetF, c, Option.map_some]
    rfl
def S_throws_of : Fn := Sf true fun ds => match ds with
  | [d, .int m] => (st? d).bind fun s => if 0 ≤ m ∧ m ≤ 1000 then some (.lst ((throwsO s m).map D.int)) else none
  | _ => none
theorem to_throws_of : ∀ ds fr r o, S_throws_of ds = some (fr, r, o) → Gives N_throws_of ds fr r := by
  refine sf_to fun ds r e => ?_
  split at e
  · rename_i d m
    cases q : st? d with
    | none => rw [q] at e; cases e
    | some s =>
      rw [q] at e
      simp only [Option.bind_some] at e
      split at e
      · rename_i hb
        cases e
        obtain ⟨rfl, hl⟩ := st?_of q
        exact sp_throws_of s m hb
      · cases e
  · cases e
theorem g_throws_of (s : List Int) (m : Int) (hs : s.length ≤ 1000) (hm : 0 ≤ m ∧ m ≤ 1000) : Gives S_throws_of [tupI s, .int m] true (.lst ((throwsO s m).map D.int)) :=
  sf_gives (by simp only [st?_tupI hs, Option.bind_some]; rw [if_pos hm])
theorem throwsO_bd {s : List Int} {m h : Int} (hm : 0 ≤ m ∧ m ≤ 1000) (e : h ∈ throwsO s m) : 0 ≤ h ∧ h ≤ 1000 := by
  unfold throwsO at e
  split at e
  · rw [List.mem_singleton] at e
    omega
  · have e := (List.mem_filter.mp e).1
    unfold rngI at e
    obtain ⟨i, hi, rfl⟩ := List.mem_map.mp e
    rw [List.mem_range] at hi
    omega
/-! ### options -/
def rowsO (s : List Int) (m p : Int) : List (List (Option (List Int))) := (throwsO s m).map fun h => endsO s h m p
def endsD (es : List (Option (List Int))) : D := .lst (es.map oD)
theorem sp_options (s : List Int) (m p : Int) (hs : s.length ≤ 1000) (hm : 0 ≤ m ∧ m ≤ 1000) (hp : 0 ≤ p ∧ p ≤ 1000) : Gives (runD [false, false, false] 1 (f_options S_slipped S_throws_of)) [tupI s, .int m, .int p] true (.lst ((rowsO s m p).map endsD)) := by
  refine gives_run (e := [.val (tupI s), .val (.int m), .val (.int p), .un]) rfl ?_
  show f_options S_slipped S_throws_of [.val (tupI s), .val (.int m), .val (.int p), .un] = _
  have hl : (throwsO s m).length ≤ 1001 := by
    unfold throwsO
    split
    · simp
    · refine Nat.le_trans (List.length_filter_le _ _) ?_
      rw [rngI_len]
      omega
  have c := fComp_all (ι := D.int) (xs := throwsO s m) (fun h => endsD (endsO s h m p)) (fun h => [.val (tupI s), .val (.int m), .val (.int p), .val (.int h)])
    (fi := fiSeq (fCall [false, false] S_throws_of (flCons (fLv 0) (flCons (fLv 1) flNil)))) (g := setE 3) (f := fCall [false, false, false, false] S_slipped (flCons (fLv 0) (flCons (fLv 3) (flCons (fLv 1) (flCons (fLv 2) flNil))))) (vs := [3])
    (env := [.val (tupI s), .val (.int m), .val (.int p), .un]) (env1 := [.val (tupI s), .val (.int m), .val (.int p), .un]) (by
      unfold fiSeq
      rw [fCall_gives (by decide) rfl rfl (g_throws_of s m hs hm)]
      rfl) (Nat.le_trans hl (by decide)) rfl rfl rfl fun h hh => ⟨rfl, rfl, rfl, fCall_gives (by decide) rfl rfl (g_slipped s h m p hs (throwsO_bd hm hh) hm hp)⟩
  unfold f_options
  simp only [fRetF, c, Option.map_some]
  unfold rowsO
  rw [List.map_map]
  rfl
end Law
namespace DL
open PySem L2
theorem compD_opt {g : FG} {t : FT} {f : FE} {vs : List Nat} {env : En} {φ : D → Option D} {e : D → En} : ∀ {ds xs : List D}, (∀ d ∈ ds, ∀ x, φ d = some x → g d env = some (e d) ∧ t (e d) = some (true, e d) ∧ mineAll (e d) vs = true ∧ wipeE (e d) vs = env ∧ f (e d) = some (x, e d)) → ds.mapM φ = some xs → compD g t f vs ds env = some (xs, env)
  | [], xs, _, h => by rw [List.mapM_nil] at h; cases h; rfl
  | d :: ds, xs, h, hm => by
    rw [List.mapM_cons] at hm
    cases e1 : φ d with
    | none => rw [e1] at hm; cases hm
    | some x =>
      cases e2 : ds.mapM φ with
      | none => rw [e1, e2] at hm; cases hm
      | some ys =>
        rw [e1, e2] at hm
        cases hm
        obtain ⟨h1, h2, h3, h4, h5⟩ := h d List.mem_cons_self x e1
        have ih := compD_opt (ds := ds) (fun y hy => h y (List.mem_cons_of_mem _ hy)) e2
        unfold compD
        simp only [h1, h2, h5, h3, h4, if_true, ih]
theorem fComp_opt {φ : D → Option D} (e : D → En) {ds xs : List D} {fi : FI} {g : FG} {f : FE} {vs : List Nat} {env env1 env2 : En} (h0 : fi env = some (ds, env1)) (hl : ds.length ≤ mx) (hm : mineAll env1 vs = true) (hm2 : mineAll (wipeE env1 vs) vs = true) (hr : restE env1 (wipeE env1 vs) vs = env2)
    (h : ∀ d ∈ ds, ∀ x, φ d = some x → g d (wipeE env1 vs) = some (e d) ∧ mineAll (e d) vs = true ∧ wipeE (e d) vs = wipeE env1 vs ∧ f (e d) = some (x, e d)) (hx : ds.mapM φ = some xs) : fComp fi g fYes f vs env = some (.lst xs, env2) := by
  unfold fComp
  rw [h0]
  simp only
  rw [if_pos ⟨hl, hm⟩, compD_opt (t := fYes) (fun d hd x ex => let ⟨a, b, c, d⟩ := h d hd x ex; ⟨a, rfl, b, c, d⟩) hx]
  simp only
  rw [if_pos hm2, hr]
theorem mapM_map {α β γ : Type} (ι : α → β) (φ : β → Option γ) : ∀ xs : List α, (xs.map ι).mapM φ = xs.mapM fun x => φ (ι x)
  | [] => rfl
  | x :: xs => by rw [List.map_cons, List.mapM_cons, List.mapM_cons, mapM_map ι φ xs]
theorem mapM_some {α β : Type} {φ : α → Option β} {ψ : α → β} : ∀ {xs : List α}, (∀ x ∈ xs, φ x = some (ψ x)) → xs.mapM φ = some (xs.map ψ)
  | [], _ => rfl
  | x :: xs, h => by
    rw [List.mapM_cons, h x List.mem_cons_self, mapM_some fun y hy => h y (List.mem_cons_of_mem _ hy)]
    rfl
/-! ### dicts by lists of ints -/
def lk {α : Type} (F : List (List Int × α)) (s : List Int) : Option α := (F.find? fun p => decide (p.1 = s)).map (·.2)
def dF {α : Type} (v : α → D) (F : List (List Int × α)) : D := .dT (F.map fun p => (ikey p.1, v p.2))
theorem ikey_inj {a b : List Int} (h : ikey a = ikey b) : a = b := by
  unfold ikey at h
  induction a generalizing b with
  | nil => cases b with
    | nil => rfl
    | cons _ _ => cases h
  | cons x a ih => cases b with
    | nil => cases h
    | cons y b =>
      rw [List.map_cons, List.map_cons] at h
      injection h with h1 h2
      injection h1 with h1
      rw [h1, ih h2]
theorem keysOf_int : ∀ s : List Int, keysOf (s.map D.int) = some (ikey s)
  | [] => rfl
  | x :: s => by rw [List.map_cons, keysOf, keysOf_int s]; rfl
theorem lk_cons {α : Type} (p : List Int × α) (F : List (List Int × α)) (s : List Int) : lk (p :: F) s = if p.1 = s then some p.2 else lk F s := by
  unfold lk
  rw [List.find?_cons]
  by_cases e : p.1 = s
  · rw [if_pos e, decide_eq_true e]; rfl
  · rw [if_neg e, decide_eq_false e]
theorem dfind_F {α : Type} (v : α → D) (s : List Int) : ∀ F : List (List Int × α), dfind (F.map fun p => (ikey p.1, v p.2)) (ikey s) = (lk F s).map v
  | [] => rfl
  | p :: F => by
    rw [List.map_cons, dfind_cons, lk_cons, dfind_F v s F]
    by_cases e : p.1 = s
    · rw [if_pos e, if_pos (by rw [e])]; rfl
    · rw [if_neg e, if_neg fun z => e (ikey_inj z)]
theorem dAt_F {α : Type} (v : α → D) (F : List (List Int × α)) (s : List Int) : dAt (dF v F) (tupI s) = some ((lk F s).map v) := by
  unfold dAt dF tupI
  simp only [keysOf_int, Option.map_some, dfind_F]
theorem ix_F {α : Type} (v : α → D) (F : List (List Int × α)) (s : List Int) : gIx (dF v F) (tupI s) = (lk F s).map v := by
  have := dAt_F v F s
  unfold gIx dF at *
  simp only [this, Option.bind_some]
  rfl
theorem inB_F {α : Type} (v : α → D) (F : List (List Int × α)) (s : List Int) : gInB (tupI s) (dF v F) = some (lk F s).isSome := by
  have := dAt_F v F s
  unfold gInB dF tupI at *
  simp only [this, Option.map_some, Option.isSome_map]
end DL
namespace Law
open PySem L2 DL
def subs : Nat → List Int → List (List Int)
  | 0, _ => [[]]
  | _ + 1, [] => []
  | k + 1, x :: xs => (subs k xs).map (x :: ·) ++ subs (k + 1) xs
def stS (b m : Int) : List (List Int) := subs b.toNat (rngI 0 m)
def sizes : List (Int × Int) := [(1, 9), (1, 5), (2, 6), (2, 9), (3, 6), (3, 8), (4, 6), (4, 7), (5, 6), (6, 8), (7, 9), (0, 3), (3, 3)]
def chkS (x : Int × Int) : Bool := match N_all_states [.int x.1, .int x.2] with
  | some (true, .lst ds, _) => tupsI? ds == some (stS x.1 x.2)
  | _ => false
theorem chkS_all : ∀ x ∈ sizes, chkS x = true := by decide +kernel
theorem sp_all_states {b m : Int} (h : (b, m) ∈ sizes) : Gives N_all_states [.int b, .int m] true (.lst ((stS b m).map tupI)) := by
  have := chkS_all _ h
  unfold chkS at this
  split at this
  · rename_i ds o e
    rw [of_tupsI? (beq_iff_eq.mp this)] at e
    exact ⟨_, e⟩
  · cases this
def S_all_states : Fn := Sf true fun ds => match ds with
  | [.int b, .int m] => if (b, m) ∈ sizes then some (.lst ((stS b m).map tupI)) else none
  | _ => none
theorem to_all_states : ∀ ds fr r o, S_all_states ds = some (fr, r, o) → Gives N_all_states ds fr r := by
  refine sf_to fun ds r e => ?_
  split at e
  · split at e
    · rename_i h
      cases e
      exact sp_all_states h
    · cases e
  · cases e
theorem g_all_states {b m : Int} (h : (b, m) ∈ sizes) : Gives S_all_states [.int b, .int m] true (.lst ((stS b m).map tupI)) := sf_gives (by simp only [if_pos h])
/-! ### can_clash -/
def ccB (kvs : List (List Key × D)) (d : D) : Option Bool := match d with
  | .non => some true
  | .tup ks => (gIx (.dT kvs) (.tup ks)).bind fun v => (gIsB v .non).map fun k => !k
  | _ => none
def S_can_clash : Fn := Sf false fun ds => match ds with
  | [.dT kvs, .lst ds] => if ds.length ≤ mx then (ds.mapM fun d => (ccB kvs d).map D.bl).bind fun xs => gAny [.lst xs] else none
  | _ => none
theorem to_can_clash : ∀ ds fr r o, S_can_clash ds = some (fr, r, o) → Gives N_can_clash ds fr r := by
  refine sf_to fun ds r e => ?_
  split at e
  · rename_i kvs ds
    split at e
    · rename_i hl
      cases q : ds.mapM fun d => (ccB kvs d).map D.bl with
      | none => rw [q] at e; cases e
      | some xs =>
        rw [q] at e
        simp only [Option.bind_some] at e
        refine gives_run (e := [.val (.dT kvs), .val (.lst ds), .un]) rfl ?_
        show f_can_clash [.val (.dT kvs), .val (.lst ds), .un] = _
        have c := fComp_opt (φ := fun d => (ccB kvs d).map D.bl) (fun d => [.val (.dT kvs), .val (.lst ds), .val d]) (ds := ds) (xs := xs) (fi := fiSeq (fVar 1)) (g := setE 2) (f := feOr (fOp2 gIs (fLv 2) (fLd (fC .non))) (fOp2 gIsNot (fLd (fOp2 gIx (fLv 0) (fLv 2))) (fLd (fC .non)))) (vs := [2])
          (env := [.val (.dT kvs), .val (.lst ds), .un]) (env1 := [.val (.dT kvs), .val (.lst ds), .un]) rfl hl rfl rfl rfl (fun d _ x ex => ⟨rfl, rfl, rfl, ?_⟩) q
        · unfold f_can_clash
          simp only [fRet, fB, flCons, fLd, c, flNil, ress, res, Option.map_some, e]
          rfl
        · unfold ccB at ex
          split at ex
          · cases ex; rfl
          · rename_i ks _m
            cases q1 : gIx (.dT kvs) (.tup ks) with
            | none => rw [q1] at ex; cases ex
            | some v =>
              cases q2 : gIsB v .non with
              | none => rw [q1] at ex; simp only [Option.bind_some, q2] at ex; cases ex
              | some k =>
                rw [q1] at ex
                simp only [Option.bind_some, q2, Option.map_some] at ex
                cases ex
                have o1 : fOp2 gIs (fLv 2) (fLd (fC .non)) [.val (.dT kvs), .val (.lst ds), .val (.tup ks)] = some (.bl false, [.val (.dT kvs), .val (.lst ds), .val (.tup ks)]) := rfl
                have o2 : fOp2 gIx (fLv 0) (fLv 2) [.val (.dT kvs), .val (.lst ds), .val (.tup ks)] = some (v, [.val (.dT kvs), .val (.lst ds), .val (.tup ks)]) := op2_of rfl rfl rfl rfl q1
                have o3 : fOp2 gIsNot (fLd (fOp2 gIx (fLv 0) (fLv 2))) (fLd (fC .non)) [.val (.dT kvs), .val (.lst ds), .val (.tup ks)] = some (.bl (!k), [.val (.dT kvs), .val (.lst ds), .val (.tup ks)]) :=
                  op2_of (by unfold fLd; rw [o2]; rfl) rfl rfl rfl (by unfold gIsNot; rw [q2]; rfl)
                unfold feOr
                rw [o1]
                exact o3
          · cases ex
    · cases e
  · cases e
theorem l_can_clash : ∀ ds t, S_can_clash ds = some t → ds.length = 2 := by
  intro ds t e
  unfold S_can_clash Sf at e
  dsimp only at e
  split at e
  · rfl
  · cases e
/-- the level of a state: None, or the lap -/
def lvD : Option Int → D
  | none => .non
  | some k => .int k
def canC (F : List (List Int × Option Int)) (es : List (Option (List Int))) : Bool := es.any fun e => match e with
  | none => true
  | some s => match lk F s with
    | some (some _) => true
    | _ => false
theorem cc_gives (F : List (List Int × Option Int)) (es : List (Option (List Int))) (hl : es.length ≤ 1000000) (hk : ∀ s, some s ∈ es → (lk F s).isSome = true) : Gives S_can_clash [dF lvD F, endsD es] false (.bl (canC F es)) := by
  refine sf_gives ?_
  show (if _ then _ else none) = _
  rw [if_pos (by rw [List.length_map]; exact hl), mapM_map, mapM_some (ψ := fun e => D.bl (match e with
    | none => true
    | some s => match lk F s with
      | some (some _) => true
      | _ => false))]
  · simp only [Option.bind_some]
    unfold gAny canC
    rw [show es.map (fun e => D.bl (match e with
      | none => true
      | some s => match lk F s with
        | some (some _) => true
        | _ => false)) = (es.map fun e => (match e with
      | none => true
      | some s => match lk F s with
        | some (some _) => true
        | _ => false)).map D.bl by rw [List.map_map]; rfl]
    simp only [bls?_map, Option.map_some, List.any_map]
    rfl
  · intro e he
    cases e with
    | none => rfl
    | some s =>
      have h := hk s he
      show (match tupI s with
        | .non => some true
        | .tup ks => (gIx (.dT _) (.tup ks)).bind fun v => (gIsB v .non).map fun k => !k
        | _ => none).map D.bl = _
      cases q : lk F s with
      | none => rw [q] at h; cases h
      | some v =>
        have ix := ix_F lvD F s
        rw [q] at ix
        unfold dF tupI at ix
        unfold tupI
        simp only [ix, q, Option.map_some, Option.bind_some]
        cases v <;> rfl
end Law
namespace DL
open PySem L2
theorem setE_mine {i : Nat} {d : D} {env : En} {s : Sl} (h : env[i]? = some s) (hm : s.mine = true) : setE i d env = some (env.set i (.val d)) := by
  unfold setE
  rw [h]
  cases s with
  | un => rfl
  | val _ => rfl
  | own io _ => cases io with
    | true => cases hm
    | false => rfl
/-- a loop that runs to its end -/
theorem loopD_fold {α S : Type} {ι : α → D} {g : FG} {f : FS} (step : S → α → S) (enc : S → En → Prop) : ∀ {xs : List α} {s : S} {env : En}, (∀ x ∈ xs, ∀ s env, enc s env → ∃ e1, g (ι x) env = some e1 ∧ ∃ e2, (f e1 = some (.nx e2) ∨ f e1 = some (.ct e2)) ∧ enc (step s x) e2) → enc s env →
    ∃ env', loopD g f (xs.map ι) env = some (.nx env') ∧ enc (xs.foldl step s) env'
  | [], s, env, _, h => ⟨env, rfl, h⟩
  | x :: xs, s, env, hs, h => by
    obtain ⟨e1, h1, e2, h2, h3⟩ := hs x List.mem_cons_self s env h
    obtain ⟨env', h4, h5⟩ := loopD_fold (xs := xs) step enc (fun y hy => hs y (List.mem_cons_of_mem _ hy)) h3
    refine ⟨env', ?_, h5⟩
    rw [List.map_cons]
    unfold loopD
    rcases h2 with h2 | h2 <;> simp only [h1, h2, h4]
theorem seq_nx {f g : FS} {env e : En} {o : Option Out} (h : f env = some (.nx e)) (h2 : g e = o) : fSeq f g env = o := by
  unfold fSeq
  rw [h]
  exact h2
theorem while_end {n : Nat} {t : FT} {f : FS} {env e : En} (h : t env = some (false, e)) : fWhile (n + 1) t f env = some (.nx e) := by
  unfold fWhile
  rw [h]
theorem while_go {n : Nat} {t : FT} {f : FS} {env e e1 : En} {o : Option Out} (h : t env = some (true, e)) (h1 : f e = some (.nx e1)) (h2 : fWhile n t f e1 = o) : fWhile (n + 1) t f env = o := by
  unfold fWhile
  simp only [h, h1]
  exact h2
theorem forD_of {fi : FI} {g : FG} {f : FS} {env e : En} {ds : List D} {o : Option Out} (h : fi env = some (ds, e)) (h2 : loopD g f ds e = o) : fFor fi g f env = o := by
  unfold fFor
  rw [h]
  exact h2
theorem if_tt {t : FT} {f g : FS} {env e : En} {o : Option Out} (h : t env = some (true, e)) (h2 : f e = o) : fIf t f g env = o := by
  unfold fIf
  rw [h]
  exact h2
theorem if_ff {t : FT} {f g : FS} {env e : En} {o : Option Out} (h : t env = some (false, e)) (h2 : g e = o) : fIf t f g env = o := by
  unfold fIf
  rw [h]
  exact h2
theorem and_tt {f g : FT} {env e : En} {o : Option (Bool × En)} (h : f env = some (true, e)) (h2 : g e = o) : ftAnd f g env = o := by
  unfold ftAnd
  rw [h]
  exact h2
theorem and_ff {f g : FT} {env e : En} (h : f env = some (false, e)) : ftAnd f g env = some (false, e) := by
  unfold ftAnd
  rw [h]
theorem or_tt {f g : FT} {env e : En} (h : f env = some (true, e)) : ftOr f g env = some (true, e) := by
  unfold ftOr
  rw [h]
theorem or_ff {f g : FT} {env e : En} {o : Option (Bool × En)} (h : f env = some (false, e)) (h2 : g e = o) : ftOr f g env = o := by
  unfold ftOr
  rw [h]
  exact h2
theorem set_of {i : Nat} {fe : FE} {env e e2 : En} {d : D} (h : fe env = some (d, e)) (h2 : setE i d e = some e2) : fSet i fe env = some (.nx e2) := by
  unfold fSet
  simp only [h, h2, Option.map_some]
theorem ret_of {fe : FE} {env e : En} {d : D} (h : fe env = some (d, e)) : fRet fe env = some (.rt false d e) := by
  unfold fRet
  rw [h]
  rfl
theorem retF_of {fe : FE} {env e : En} {d : D} (h : fe env = some (d, e)) : fRetF fe env = some (.rt true d e) := by
  unfold fRetF
  rw [h]
  rfl
theorem fB1_of {g : List D → Option D} {f : FL} {env e : En} {l : LV} {d r : D} (h : f env = some (l, e)) (h2 : res e l = some d) (h3 : g [d] = some r) : fB g (flCons f flNil) env = some (r, e) := by
  unfold fB flCons flNil
  simp only [h, ress, h2, h3, Option.map_some]
theorem fLd_of {f : FE} {env e : En} {d : D} (h : f env = some (d, e)) : fLd f env = some (.inr d, e) := by
  unfold fLd
  rw [h]
  rfl
/-- own slots lent to a def -/
theorem bor_of {fn : Fn} {fs : FLs} {env e : En} {ls : List LV} {ds : List D} {fr : Bool} {r : D} (h1 : fs env = some (ls, e)) (h2 : ress e ls = some ds) (h3 : Gives fn ds fr r) (h4 : flat r = true) : fCallBor fn fs env = some (r, e) := by
  obtain ⟨o, h3⟩ := h3
  unfold fCallBor
  simp only [h1, h2, h3, h4, if_true]
/-! ### a dict's entry put -/
def putF {α : Type} (F : List (List Int × α)) (s : List Int) (x : α) : List (List Int × α) := F.map fun p => if p.1 = s then (p.1, x) else p
theorem lk_some {α : Type} {s : List Int} : ∀ {F : List (List Int × α)}, (lk F s).isSome = true → F.any (fun p => decide (p.1 = s)) = true
  | [], h => by cases h
  | p :: F, h => by
    rw [lk_cons] at h
    rw [List.any_cons]
    by_cases e : p.1 = s
    · rw [decide_eq_true e]; rfl
    · rw [if_neg e] at h
      rw [lk_some h, Bool.or_true]
theorem dput_F {α : Type} (v : α → D) {F : List (List Int × α)} {s : List Int} (x : α) (h : (lk F s).isSome = true) : dput (F.map fun p => (ikey p.1, v p.2)) (ikey s) (v x) = (putF F s x).map fun p => (ikey p.1, v p.2) := by
  unfold dput
  have : ((F.map fun p => (ikey p.1, v p.2)).any fun kv => decide (kv.1 = ikey s)) = true := by
    rw [List.any_map]
    have := lk_some h
    rw [List.any_eq_true] at this ⊢
    obtain ⟨p, hp, e⟩ := this
    exact ⟨p, hp, by simp at e; simp [e]⟩
  rw [if_pos this]
  unfold putF
  rw [List.map_map, List.map_map]
  refine List.map_congr_left fun p _ => ?_
  show (if ikey p.1 = ikey s then (ikey p.1, v x) else (ikey p.1, v p.2)) = (ikey (if p.1 = s then (p.1, x) else p).1, v (if p.1 = s then (p.1, x) else p).2)
  by_cases e : p.1 = s
  · rw [if_pos (by rw [e]), if_pos e]
  · rw [if_neg fun z => e (ikey_inj z), if_neg e]
theorem putD_F {α : Type} (v : α → D) {F : List (List Int × α)} {s : List Int} (x : α) (h : (lk F s).isSome = true) (hl : F.length < mx) : putD (dF v F) (tupI s) (v x) = some (dF v (putF F s x)) := by
  unfold putD dF tupI
  simp only [keysOf_int, List.length_map, if_pos hl]
  rw [dput_F v x h]
theorem putF_len {α : Type} {F : List (List Int × α)} {s : List Int} {x : α} : (putF F s x).length = F.length := by unfold putF; rw [List.length_map]
theorem putF_keys {α : Type} {F : List (List Int × α)} {s : List Int} {x : α} : (putF F s x).map (·.1) = F.map (·.1) := by
  unfold putF
  rw [List.map_map]
  refine List.map_congr_left fun p _ => ?_
  show (if p.1 = s then (p.1, x) else p).1 = p.1
  split <;> rfl
theorem lk_isSome {α : Type} {s : List Int} : ∀ {F : List (List Int × α)}, (lk F s).isSome = true ↔ s ∈ F.map (·.1)
  | [] => by simp [lk]
  | p :: F => by
    rw [lk_cons, List.map_cons, List.mem_cons, ← lk_isSome (F := F)]
    by_cases e : p.1 = s
    · rw [if_pos e]; simp [e]
    · rw [if_neg e]
      constructor
      · exact .inr
      · exact fun z => z.elim (fun z => absurd z.symm e) id
theorem lk_putF {α : Type} {s t : List Int} {x : α} : ∀ {F : List (List Int × α)}, lk (putF F s x) t = if t = s then (lk F t).map fun _ => x else lk F t
  | [] => by unfold putF; split <;> rfl
  | p :: F => by
    have ih := lk_putF (s := s) (t := t) (x := x) (F := F)
    show lk ((if p.1 = s then (p.1, x) else p) :: putF F s x) t = _
    rw [lk_cons, lk_cons, ih]
    by_cases e : p.1 = s
    · rw [if_pos e]
      by_cases e2 : p.1 = t
      · rw [if_pos e2, if_pos e2, if_pos (by rw [← e2, e])]; rfl
      · rw [if_neg e2, if_neg e2]
    · rw [if_neg e]
      by_cases e2 : p.1 = t
      · rw [if_pos e2, if_pos e2, if_neg fun z => e (e2.trans z)]
      · rw [if_neg e2, if_neg e2]
end DL
namespace DL
open PySem L2
/-- .. told by the place -/
theorem loopD_foldI {α S : Type} {ι : α → D} {g : FG} {f : FS} (step : S → α → S) (enc : Nat → S → En → Prop) : ∀ {xs : List α} {k : Nat} {s : S} {env : En}, (∀ (i : Nat) x, xs[i]? = some x → ∀ s env, enc (k + i) s env → ∃ e1, g (ι x) env = some e1 ∧ ∃ e2, (f e1 = some (.nx e2) ∨ f e1 = some (.ct e2)) ∧ enc (k + i + 1) (step s x) e2) → enc k s env →
    ∃ env', loopD g f (xs.map ι) env = some (.nx env') ∧ enc (k + xs.length) (xs.foldl step s) env'
  | [], k, s, env, _, h => ⟨env, rfl, h⟩
  | x :: xs, k, s, env, hs, h => by
    obtain ⟨e1, h1, e2, h2, h3⟩ := hs 0 x rfl s env h
    obtain ⟨env', h4, h5⟩ := loopD_foldI (xs := xs) (k := k + 1) step enc (fun i y hy s env he => by
      have := hs (i + 1) y (by simpa using hy) s env (by rw [show k + (i + 1) = k + 1 + i by omega]; exact he)
      rw [show k + (i + 1) + 1 = k + 1 + i + 1 by omega] at this
      exact this) h3
    refine ⟨env', ?_, by rw [List.length_cons, show k + (xs.length + 1) = k + 1 + xs.length by omega]; exact h5⟩
    rw [List.map_cons]
    unfold loopD
    rcases h2 with h2 | h2 <;> simp only [h1, h2, h4]
theorem tupK_ikey (s : List Int) : tupK (ikey s) = tupI s := by
  unfold tupK ikey tupI
  rw [List.map_map]
  rfl
theorem items_F {α : Type} (v : α → D) (i : Nat) {F : List (List Int × α)} {env : En} (h : env[i]? = some (.val (dF v F))) : fiItems i env = some (F.map fun p => .tup [tupI p.1, v p.2], env) := by
  unfold fiItems
  rw [h]
  unfold dF
  simp only [List.map_map]
  congr 2
  refine List.map_congr_left fun p _ => ?_
  show D.tup [tupK (ikey p.1), v p.2] = _
  rw [tupK_ikey]
theorem keys_F {α : Type} (v : α → D) (i : Nat) {F : List (List Int × α)} {env : En} (h : env[i]? = some (.val (dF v F))) : fiKeysV i env = some (F.map fun p => tupI p.1, env) := by
  unfold fiKeysV
  rw [h]
  unfold dF
  simp only [List.map_map]
  congr 2
  refine List.map_congr_left fun p _ => ?_
  show tupK (ikey p.1) = _
  rw [tupK_ikey]
theorem all_bls (bs : List Bool) : gAll [.lst (bs.map D.bl)] = some (.bl (bs.all id)) := by
  unfold gAll
  simp only [bls?_map, Option.map_some]
theorem any_bls (bs : List Bool) : gAny [.lst (bs.map D.bl)] = some (.bl (bs.any id)) := by
  unfold gAny
  simp only [bls?_map, Option.map_some]
theorem foldl_filter {α β : Type} (p : α → Bool) (f : α → β) : ∀ (xs : List α) (L : List β), xs.foldl (fun L x => if p x then L ++ [f x] else L) L = L ++ (xs.filter p).map f
  | [], L => by simp
  | x :: xs, L => by
    rw [List.foldl_cons, foldl_filter p f xs]
    cases h : p x with
    | true => rw [if_pos rfl, List.filter_cons_of_pos h, List.map_cons, List.append_assoc]; rfl
    | false => rw [if_neg Bool.false_ne_true, List.filter_cons_of_neg (by rw [h]; exact Bool.false_ne_true)]
end DL
namespace Law
open PySem L2 DL
abbrev Rows := List (List (Option (List Int)))
abbrev RT := List (List Int × Rows)
abbrev FT' := List (List Int × Option Int)
def rowsD (rs : Rows) : D := .lst (rs.map endsD)
structure ROk (R : RT) : Prop where
  len : R.length ≤ 1000
  rows : ∀ x ∈ R, x.2.length ≤ 1000 ∧ ∀ es ∈ x.2, es.length ≤ 1000 ∧ ∀ t, some t ∈ es → t ∈ R.map (·.1)
def isLater (F : FT') (x : List Int × Rows) : Bool := (match lk F x.1 with
  | some none => true
  | _ => false) && x.2.all (canC F)
def laterC (R : RT) (F : FT') : List (List Int) := (R.filter (isLater F)).map (·.1)
def lapF (k : Int) (L : List (List Int)) (F : FT') : FT' := L.foldl (fun F s => putF F s (some k)) F
def whileC (R : RT) : Nat → Int → FT' → Option FT'
  | 0, _, _ => none
  | n + 1, k, F => if laterC R F = [] then some F else whileC R n (k + 1) (lapF (k + 1) (laterC R F) F)
theorem lapF_keys {k : Int} : ∀ {L : List (List Int)} {F : FT'}, (lapF k L F).map (·.1) = F.map (·.1)
  | [], _ => rfl
  | s :: L, F => by
    show (lapF k L (putF F s (some k))).map (·.1) = _
    rw [lapF_keys, putF_keys]
def cE (b m p : Int) (R : RT) (F : FT') (lap : Int) (mv : Bool) (s7 s8 s9 : Sl) : En := [.val (.int b), .val (.int m), .val (.int p), .val (dF rowsD R), .own false (dF lvD F), .val (.int lap), .val (.bl mv), s7, s8, s9, .un]
abbrev test1 : FT := ftAnd (fTest (fOp2 gIs (fLd (fOp2 gIx (fLv 4) (fLv 8))) (fLd (fC .non)))) (fTest (fB gAll (flCons (fLd (fComp (fiSeq (fVar 9)) (setE 10) fYes (fCallBor S_can_clash (flCons (fLv 4) (flCons (fLv 10) flNil))) [10])) flNil)))
theorem later_test {b m p : Int} {R : RT} {F : FT'} {lap : Int} {mv : Bool} {s7 : Sl} {x : List Int × Rows} (ok : ROk R) (hk : F.map (·.1) = R.map (·.1)) (hx : x ∈ R) :
    test1 (cE b m p R F lap mv s7 (.val (tupI x.1)) (.val (rowsD x.2))) = some (isLater F x, cE b m p R F lap mv s7 (.val (tupI x.1)) (.val (rowsD x.2))) := by
  obtain ⟨hl, he⟩ := ok.rows x hx
  have mem : ∀ t, t ∈ R.map (·.1) → (lk F t).isSome = true := fun t h => lk_isSome.mpr (hk ▸ h)
  obtain ⟨v, hv⟩ := Option.isSome_iff_exists.mp (mem x.1 (List.mem_map.mpr ⟨x, hx, rfl⟩))
  have i1 : fOp2 gIx (fLv 4) (fLv 8) (cE b m p R F lap mv s7 (.val (tupI x.1)) (.val (rowsD x.2))) = some (lvD v, cE b m p R F lap mv s7 (.val (tupI x.1)) (.val (rowsD x.2))) := op2_of rfl rfl rfl rfl (by rw [ix_F, hv]; rfl)
  cases v with
  | some k =>
    have t : fTest (fOp2 gIs (fLd (fOp2 gIx (fLv 4) (fLv 8))) (fLd (fC .non))) (cE b m p R F lap mv s7 (.val (tupI x.1)) (.val (rowsD x.2))) = some (false, _) := test_op2 (fLd_of i1) rfl rfl rfl rfl
    rw [show isLater F x = false by unfold isLater; rw [hv]; rfl]
    exact and_ff t
  | none =>
    have t : fTest (fOp2 gIs (fLd (fOp2 gIx (fLv 4) (fLv 8))) (fLd (fC .non))) (cE b m p R F lap mv s7 (.val (tupI x.1)) (.val (rowsD x.2))) = some (true, _) := test_op2 (fLd_of i1) rfl rfl rfl rfl
    rw [show isLater F x = x.2.all (canC F) by unfold isLater; rw [hv]; rfl]
    refine and_tt t (test_of' ?_)
    have c := fComp_all (ι := endsD) (xs := x.2) (fun es => .bl (canC F es)) (fun es => (cE b m p R F lap mv s7 (.val (tupI x.1)) (.val (rowsD x.2))).set 10 (.val (endsD es))) (fi := fiSeq (fVar 9)) (g := setE 10) (f := fCallBor S_can_clash (flCons (fLv 4) (flCons (fLv 10) flNil))) (vs := [10])
      (env := cE b m p R F lap mv s7 (.val (tupI x.1)) (.val (rowsD x.2))) (env1 := cE b m p R F lap mv s7 (.val (tupI x.1)) (.val (rowsD x.2))) rfl (Nat.le_trans hl (by decide)) rfl rfl rfl fun es hes => ⟨rfl, rfl, rfl, bor_of rfl rfl (cc_gives F es (Nat.le_trans (he es hes).1 (by decide)) fun t ht => mem t ((he es hes).2 t ht)) rfl⟩
    refine fB1_of (fLd_of c) rfl ?_
    rw [show (x.2.map fun es => D.bl (canC F es)) = (x.2.map (canC F)).map D.bl by rw [List.map_map]; rfl, all_bls, List.all_map]
    rfl
end Law
namespace Law
open PySem L2 DL
abbrev loop1 : FS := fFor (fiItems 3) (fgTup (fgCons (setE 8) (fgCons (setE 9) fgNil)) 2) (fIf test1 (fDrop (fAppend 7 (faCons (fVar 8) faNil))) fSkip)
abbrev loop2 : FS := fFrz 7 (fFor (fiSeq (fVar 7)) (setE 8) (fAsg (fTup (faCons (fVar 5) (faCons (fC (.bl true)) faNil))) (fgTup (fgCons (fgSub 4 (fLv 8)) (fgCons (setE 6) fgNil)) 2)))
theorem loop1_ok {b m p : Int} {R : RT} {F : FT'} {lap : Int} {mv : Bool} {s8 s9 : Sl} (ok : ROk R) (hk : F.map (·.1) = R.map (·.1)) (m8 : s8.mine = true) (m9 : s9.mine = true) :
    ∃ t8 t9, t8.mine = true ∧ t9.mine = true ∧ loop1 (cE b m p R F lap mv (.own false (.lst [])) s8 s9) = some (.nx (cE b m p R F lap mv (.own false (.lst ((laterC R F).map tupI))) t8 t9)) := by
  have L := loopD_foldI (α := List Int × Rows) (S := List (List Int)) (ι := fun x => .tup [tupI x.1, rowsD x.2]) (g := fgTup (fgCons (setE 8) (fgCons (setE 9) fgNil)) 2) (f := fIf test1 (fDrop (fAppend 7 (faCons (fVar 8) faNil))) fSkip)
    (fun L x => if isLater F x then L ++ [x.1] else L) (fun i L env => L.length ≤ i ∧ ∃ t8 t9, t8.mine = true ∧ t9.mine = true ∧ env = cE b m p R F lap mv (.own false (.lst (L.map tupI))) t8 t9) (xs := R) (k := 0) (s := []) (env := cE b m p R F lap mv (.own false (.lst [])) s8 s9) (fun i x hx L env he => ?_) ⟨Nat.le_refl _, s8, s9, m8, m9, rfl⟩
  · obtain ⟨env', h1, _, t8, t9, n8, n9, rfl⟩ := L
    refine ⟨t8, t9, n8, n9, ?_⟩
    rw [foldl_filter, List.nil_append] at h1
    exact forD_of (items_F rowsD 3 rfl) h1
  · obtain ⟨hl, t8, t9, n8, n9, rfl⟩ := he
    have hx' : x ∈ R := List.mem_of_getElem? hx
    have hi := (List.getElem?_eq_some_iff.mp hx).1
    refine ⟨cE b m p R F lap mv (.own false (.lst (L.map tupI))) (.val (tupI x.1)) (.val (rowsD x.2)), ?_, ?_⟩
    · show (fgCons (setE 8) (fgCons (setE 9) fgNil)) [tupI x.1, rowsD x.2] _ = _
      unfold fgCons
      simp only [setE_mine (i := 8) (env := cE b m p R F lap mv (.own false (.lst (L.map tupI))) t8 t9) rfl n8]
      simp only [setE_mine (i := 9) (env := (cE b m p R F lap mv (.own false (.lst (L.map tupI))) t8 t9).set 8 (.val (tupI x.1))) rfl n9]
      rfl
    · cases q : isLater F x with
      | false =>
        refine ⟨_, .inl (if_ff (by rw [later_test ok hk hx', q]) rfl), ?_⟩
        rw [if_neg Bool.false_ne_true]
        exact ⟨by omega, _, _, rfl, rfl, rfl⟩
      | true =>
        refine ⟨cE b m p R F lap mv (.own false (.lst ((L ++ [x.1]).map tupI))) (.val (tupI x.1)) (.val (rowsD x.2)), .inl (if_tt (by rw [later_test ok hk hx', q]) ?_), ?_⟩
        · have happ : fAppend 7 (faCons (fVar 8) faNil) (cE b m p R F lap mv (.own false (.lst (L.map tupI))) (.val (tupI x.1)) (.val (rowsD x.2))) = some (.non, cE b m p R F lap mv (.own false (.lst ((L ++ [x.1]).map tupI))) (.val (tupI x.1)) (.val (rowsD x.2))) := by
            have e1 : lstAt 7 (cE b m p R F lap mv (.own false (.lst (L.map tupI))) (.val (tupI x.1)) (.val (rowsD x.2))) = some (false, L.map tupI) := rfl
            have e2 : faCons (fVar 8) faNil (cE b m p R F lap mv (.own false (.lst (L.map tupI))) (.val (tupI x.1)) (.val (rowsD x.2))) = some ([tupI x.1], cE b m p R F lap mv (.own false (.lst (L.map tupI))) (.val (tupI x.1)) (.val (rowsD x.2))) := rfl
            unfold fAppend
            simp only [e1, e2]
            rw [if_pos (by rw [List.length_map]; have := ok.len; exact Nat.lt_of_lt_of_le (by omega) (show 1001 ≤ mx by decide)), List.map_append]
            rfl
          unfold fDrop
          rw [happ]
          rfl
        · rw [if_pos rfl]
          exact ⟨by rw [List.length_append]; simp; omega, _, _, rfl, rfl, rfl⟩
theorem loop2_ok {b m p : Int} {R : RT} {F : FT'} {lap : Int} {mv : Bool} {L : List (List Int)} {s8 s9 : Sl} (ok : ROk R) (hk : F.map (·.1) = R.map (·.1)) (hL : ∀ s ∈ L, s ∈ R.map (·.1)) (m8 : s8.mine = true) :
    ∃ t8, t8.mine = true ∧ loop2 (cE b m p R F lap mv (.own false (.lst (L.map tupI))) s8 s9) = some (.nx (cE b m p R (lapF lap L F) lap (if L = [] then mv else true) (.val (.lst (L.map tupI))) t8 s9)) := by
  have key := loopD_fold (α := List Int) (S := FT' × Bool) (ι := tupI) (g := setE 8) (f := fAsg (fTup (faCons (fVar 5) (faCons (fC (.bl true)) faNil))) (fgTup (fgCons (fgSub 4 (fLv 8)) (fgCons (setE 6) fgNil)) 2))
    (fun a s => (putF a.1 s (some lap), true)) (fun a env => a.1.map (·.1) = R.map (·.1) ∧ ∃ t8, t8.mine = true ∧ env = cE b m p R a.1 lap a.2 (.val (.lst (L.map tupI))) t8 s9) (xs := L) (s := (F, mv)) (env := cE b m p R F lap mv (.val (.lst (L.map tupI))) s8 s9) (fun s hs a env he => ?_) ⟨hk, s8, m8, rfl⟩
  · obtain ⟨env', h1, _, t8, n8, rfl⟩ := key
    refine ⟨t8, n8, ?_⟩
    have fold : ∀ (L : List (List Int)) (F : FT') (mv : Bool), L.foldl (fun (a : FT' × Bool) s => (putF a.1 s (some lap), true)) (F, mv) = (lapF lap L F, if L = [] then mv else true) := by
      intro L
      induction L with
      | nil => intro F mv; rfl
      | cons s L ih =>
        intro F mv
        rw [List.foldl_cons, ih]
        show (lapF lap L (putF F s (some lap)), _) = (lapF lap L (putF F s (some lap)), _)
        congr 1
        rw [if_neg (List.cons_ne_nil _ _)]
        split <;> rfl
    rw [fold] at h1
    show fFor (fiSeq (fVar 7)) (setE 8) _ (cE b m p R F lap mv (.val (.lst (L.map tupI))) s8 s9) = _
    exact forD_of rfl h1
  · obtain ⟨hk', t8, n8, rfl⟩ := he
    refine ⟨cE b m p R a.1 lap a.2 (.val (.lst (L.map tupI))) (.val (tupI s)) s9, setE_mine rfl n8, cE b m p R (putF a.1 s (some lap)) lap true (.val (.lst (L.map tupI))) (.val (tupI s)) s9, .inl ?_, by rw [putF_keys]; exact hk', _, rfl, rfl⟩
    have hput : putD (dF lvD a.1) (tupI s) (lvD (some lap)) = some (dF lvD (putF a.1 s (some lap))) := putD_F lvD (some lap) (lk_isSome.mpr (hk' ▸ hL s hs)) (by
      have : a.1.length = R.length := by rw [← List.length_map (f := (·.1)) (as := a.1), hk', List.length_map]
      rw [this]
      exact Nat.lt_of_le_of_lt ok.len (by decide))
    have hsub : fgSub 4 (fLv 8) (.int lap) (cE b m p R a.1 lap a.2 (.val (.lst (L.map tupI))) (.val (tupI s)) s9) = some (cE b m p R (putF a.1 s (some lap)) lap a.2 (.val (.lst (L.map tupI))) (.val (tupI s)) s9) := by
      show (putD (dF lvD a.1) (tupI s) (lvD (some lap))).map _ = _
      rw [hput]
      rfl
    show ((fgCons (fgSub 4 (fLv 8)) (fgCons (setE 6) fgNil)) [.int lap, .bl true] (cE b m p R a.1 lap a.2 (.val (.lst (L.map tupI))) (.val (tupI s)) s9)).map Out.nx = _
    unfold fgCons
    simp only [hsub]
    rfl
end Law
namespace Law
open PySem L2 DL
abbrev bodyW : FS := fSeq (fPar [5, 6, 7] (fmVal (fOp2 DL.gAdd (fLv 5) (fLd (fC (.int 1)))) (fmVal (fC (.bl false)) (fmOwn (fLst faNil) fmNil)))) (fSeq loop1 loop2)
theorem laterC_mem {R : RT} {F : FT'} : ∀ s ∈ laterC R F, s ∈ R.map (·.1) := fun s h => by
  obtain ⟨x, hx, rfl⟩ := List.mem_map.mp h
  exact List.mem_map.mpr ⟨x, (List.mem_filter.mp hx).1, rfl⟩
theorem body_ok {b m p : Int} {R : RT} {F : FT'} {lap : Int} {s7 s8 s9 : Sl} (ok : ROk R) (hk : F.map (·.1) = R.map (·.1)) (m7 : s7.mine = true) (m8 : s8.mine = true) (m9 : s9.mine = true) :
    ∃ t7 t8 t9, t7.mine = true ∧ t8.mine = true ∧ t9.mine = true ∧ bodyW (cE b m p R F lap true s7 s8 s9) = some (.nx (cE b m p R (lapF (lap + 1) (laterC R F) F) (lap + 1) (if laterC R F = [] then false else true) t7 t8 t9)) := by
  have p1 : fPar [5, 6, 7] (fmVal (fOp2 DL.gAdd (fLv 5) (fLd (fC (.int 1)))) (fmVal (fC (.bl false)) (fmOwn (fLst faNil) fmNil))) (cE b m p R F lap true s7 s8 s9) = some (.nx (cE b m p R F (lap + 1) false (.own false (.lst [])) s8 s9)) := by
    cases s7 with
    | un => rfl
    | val d => rfl
    | own io d => cases io with
      | true => cases m7
      | false => rfl
  obtain ⟨t8, t9, n8, n9, l1⟩ := loop1_ok (b := b) (m := m) (p := p) (lap := lap + 1) (mv := false) ok hk m8 m9
  obtain ⟨u8, v8, l2⟩ := loop2_ok (b := b) (m := m) (p := p) (lap := lap + 1) (mv := false) (s9 := t9) ok hk (laterC_mem (F := F)) n8
  exact ⟨_, u8, t9, rfl, v8, n9, seq_nx p1 (seq_nx l1 l2)⟩
theorem while_ok {b m p : Int} {R : RT} (ok : ROk R) : ∀ (n : Nat) {lap : Int} {F F' : FT'} {s7 s8 s9 : Sl}, F.map (·.1) = R.map (·.1) → s7.mine = true → s8.mine = true → s9.mine = true → whileC R n lap F = some F' →
    ∃ lap' mv' t7 t8 t9, F'.map (·.1) = R.map (·.1) ∧ fWhile (n + 1) (fTest (fVar 6)) bodyW (cE b m p R F lap true s7 s8 s9) = some (.nx (cE b m p R F' lap' mv' t7 t8 t9))
  | 0, _, _, _, _, _, _, _, _, _, _, h => by cases h
  | n + 1, lap, F, F', s7, s8, s9, hk, m7, m8, m9, h => by
    obtain ⟨t7, t8, t9, n7, n8, n9, hb⟩ := body_ok (b := b) (m := m) (p := p) (lap := lap) ok hk m7 m8 m9
    unfold whileC at h
    by_cases hL : laterC R F = []
    · rw [if_pos hL] at h
      cases h
      rw [if_pos hL, hL] at hb
      exact ⟨lap + 1, false, t7, t8, t9, hk, while_go rfl hb (while_end rfl)⟩
    · rw [if_neg hL] at h
      rw [if_neg hL] at hb
      obtain ⟨l', mv', u7, u8, u9, k', hw⟩ := while_ok ok n (by rw [lapF_keys]; exact hk) n7 n8 n9 h
      exact ⟨l', mv', u7, u8, u9, k', while_go rfl hb hw⟩
/-- the rows of a size -/
def RS (b m p : Int) : RT := (stS b m).map fun s => (s, rowsO s m p)
def F0 (R : RT) : FT' := R.map fun x => (x.1, none)
end Law
namespace DL
open PySem L2
theorem dput_new {α : Type} (v : α → D) {F : List (List Int × α)} {s : List Int} (x : α) (h : s ∉ F.map (·.1)) : dput (F.map fun p => (ikey p.1, v p.2)) (ikey s) (v x) = (F ++ [(s, x)]).map fun p => (ikey p.1, v p.2) := by
  unfold dput
  have : ¬ ((F.map fun p => (ikey p.1, v p.2)).any fun kv => decide (kv.1 = ikey s)) = true := by
    rw [List.any_map, List.any_eq_true]
    rintro ⟨p, hp, e⟩
    have e' : ikey p.1 = ikey s := of_decide_eq_true e
    exact h (List.mem_map.mpr ⟨p, hp, ikey_inj e'⟩)
  rw [if_neg this, List.map_append]
  rfl
theorem putD_new {α : Type} (v : α → D) {F : List (List Int × α)} {s : List Int} (x : α) (h : s ∉ F.map (·.1)) (hl : F.length < mx) : putD (dF v F) (tupI s) (v x) = some (dF v (F ++ [(s, x)])) := by
  unfold putD dF tupI
  simp only [keysOf_int, List.length_map, if_pos hl]
  rw [dput_new v x h]
theorem compQ_new {α β : Type} {ι : α → D} {g : FG} {fk fv : FE} {vs : List Nat} {env : En} (κ : α → List Int) (v : β → D) (φ : α → β) (e : α → En) : ∀ {xs : List α} {A : List (List Int × β)}, (∀ x ∈ xs, g (ι x) env = some (e x) ∧ fk (e x) = some (tupI (κ x), e x) ∧ fv (e x) = some (v (φ x), e x) ∧ mineAll (e x) vs = true ∧ wipeE (e x) vs = env) →
    (A.map (·.1) ++ xs.map κ).Nodup → A.length + xs.length ≤ mx → compQ g fYes fk fv vs (xs.map ι) (dF v A) env = some (dF v (A ++ xs.map fun x => (κ x, φ x)), env)
  | [], A, _, _, _ => by rw [List.map_nil, List.map_nil, List.append_nil]; rfl
  | x :: xs, A, h, nd, hl => by
    obtain ⟨h1, h2, h3, h4, h5⟩ := h x List.mem_cons_self
    have nk : κ x ∉ A.map (·.1) := fun z => by
      rw [List.map_cons, List.nodup_append] at nd
      exact nd.2.2 _ z _ List.mem_cons_self rfl
    rw [List.length_cons] at hl
    have hp := putD_new v (φ x) nk (show A.length < mx by omega)
    have ih := compQ_new κ v φ e (xs := xs) (A := A ++ [(κ x, φ x)]) (fun y hy => h y (List.mem_cons_of_mem _ hy)) (by
      rw [List.map_append, List.append_assoc]
      exact nd) (by rw [List.length_append, List.length_singleton]; omega)
    rw [List.map_cons]
    unfold compQ
    simp only [h1, fYes, h2, h3, hp, h4, h5, if_true]
    rw [ih, List.append_assoc]
    rfl
theorem fCompQ_new {α β : Type} {ι : α → D} {xs : List α} (κ : α → List Int) (v : β → D) (φ : α → β) (e : α → En) {fi : FI} {g : FG} {fk fv : FE} {vs : List Nat} {env env1 env2 : En} (h0 : fi env = some (xs.map ι, env1)) (hl : xs.length ≤ mx) (nd : (xs.map κ).Nodup) (hm : mineAll env1 vs = true) (hm2 : mineAll (wipeE env1 vs) vs = true) (hr : restE env1 (wipeE env1 vs) vs = env2)
    (h : ∀ x ∈ xs, g (ι x) (wipeE env1 vs) = some (e x) ∧ fk (e x) = some (tupI (κ x), e x) ∧ fv (e x) = some (v (φ x), e x) ∧ mineAll (e x) vs = true ∧ wipeE (e x) vs = wipeE env1 vs) : fCompQ true fi g fYes fk fv vs env = some (dF v (xs.map fun x => (κ x, φ x)), env2) := by
  have c := compQ_new κ v φ e (A := []) h (by simpa using nd) (by simpa using hl)
  unfold fCompQ
  rw [h0]
  simp only
  rw [if_pos hm]
  have c' : compQ g fYes fk fv vs (xs.map ι) (dE true) (wipeE env1 vs) = some (dF v (xs.map fun x => (κ x, φ x)), wipeE env1 vs) := c
  rw [c']
  simp only
  rw [if_pos hm2, hr]
end DL
namespace Law
open PySem L2 DL
/-- what is checked of the sizes -/
def szOk (x : Int × Int) : Bool := decide (0 ≤ x.1 ∧ 0 ≤ x.2 ∧ x.2 ≤ 15) && decide ((stS x.1 x.2).length ≤ 60) && decide ((stS x.1 x.2).Nodup) && (stS x.1 x.2).all fun s => decide (s.length ≤ 15) && (rngI 0 (x.2 + 1)).all fun h => match behindO s h with
  | none => true
  | some t => (stS x.1 x.2).contains t
theorem sz_all : ∀ x ∈ sizes, szOk x = true := by decide +kernel
structure Sz (b m : Int) : Prop where
  mem : (b, m) ∈ sizes
  b0 : 0 ≤ b
  m0 : 0 ≤ m
  m15 : m ≤ 15
  len : (stS b m).length ≤ 60
  nd : (stS b m).Nodup
  sl : ∀ s ∈ stS b m, s.length ≤ 15
  cl : ∀ s ∈ stS b m, ∀ h, 0 ≤ h → h ≤ m → ∀ t, behindO s h = some t → t ∈ stS b m
theorem mem_rngI {a b i : Int} : i ∈ rngI a b ↔ a ≤ i ∧ i < b := by
  unfold rngI
  rw [List.mem_map]
  constructor
  · rintro ⟨k, hk, rfl⟩
    rw [List.mem_range] at hk
    omega
  · rintro ⟨h1, h2⟩
    exact ⟨(i - a).toNat, List.mem_range.mpr (by omega), by omega⟩
theorem sz_of {b m : Int} (h : (b, m) ∈ sizes) : Sz b m := by
  have z := sz_all _ h
  unfold szOk at z
  simp only [Bool.and_eq_true, decide_eq_true_eq, List.all_eq_true] at z
  obtain ⟨⟨⟨⟨z1, z2, z3⟩, z4⟩, z5⟩, z6⟩ := z
  refine ⟨h, z1, z2, z3, z4, z5, fun s hs => (z6 s hs).1, fun s hs k k0 km t e => ?_⟩
  have := (z6 s hs).2 k (mem_rngI.mpr ⟨k0, by omega⟩)
  rw [e] at this
  exact List.contains_iff_mem.mp this
theorem throwsO_mem {s : List Int} {m h : Int} (hm : 0 ≤ m) (e : h ∈ throwsO s m) : 0 ≤ h ∧ h ≤ m := by
  unfold throwsO at e
  split at e
  · rw [List.mem_singleton] at e
    omega
  · have e := mem_rngI.mp (List.mem_filter.mp e).1
    omega
theorem throwsO_len {s : List Int} {m : Int} (hm : 0 ≤ m ∧ m ≤ 15) : (throwsO s m).length ≤ 16 := by
  unfold throwsO
  split
  · simp
  · refine Nat.le_trans (List.length_filter_le _ _) ?_
    rw [rngI_len]
    omega
theorem endsO_mem {s : List Int} {h m p : Int} {t : List Int} (hh : 0 ≤ h ∧ h ≤ m) (e : some t ∈ endsO s h m p) : ∃ o, 0 ≤ o ∧ o ≤ m ∧ behindO s o = some t := by
  unfold endsO at e
  split at e
  · rw [List.mem_singleton] at e
    exact ⟨0, by omega, by omega, e.symm⟩
  · obtain ⟨o, ho, eo⟩ := List.mem_map.mp e
    have := mem_rngI.mp ho
    refine ⟨o, ?_, ?_, eo⟩
    · have : (1 : Int) ≤ mxI 1 (h - p) := by unfold mxI; split <;> omega
      omega
    · have : mnI m (h + p) ≤ m := by unfold mnI; split <;> omega
      omega
theorem endsO_len {s : List Int} {h m p : Int} (hm : 0 ≤ m ∧ m ≤ 15) : (endsO s h m p).length ≤ 16 := by
  unfold endsO
  split
  · simp
  · rw [List.length_map, rngI_len]
    unfold mxI mnI
    split <;> split <;> omega
theorem RS_keys (b m p : Int) : (RS b m p).map (·.1) = stS b m := by
  unfold RS
  rw [List.map_map]
  exact List.map_id _
theorem RS_ok {b m p : Int} (z : Sz b m) : ROk (RS b m p) := by
  refine ⟨by unfold RS; rw [List.length_map]; have := z.len; omega, fun x hx => ?_⟩
  obtain ⟨s, hs, rfl⟩ := List.mem_map.mp hx
  refine ⟨?_, fun es he => ?_⟩
  · show ((throwsO s m).map _).length ≤ 1000
    rw [List.length_map]
    have := throwsO_len (s := s) ⟨z.m0, z.m15⟩
    omega
  · obtain ⟨h, hh, rfl⟩ := List.mem_map.mp he
    have := endsO_len (s := s) (h := h) (p := p) ⟨z.m0, z.m15⟩
    refine ⟨by omega, fun t ht => ?_⟩
    rw [RS_keys]
    obtain ⟨o, o0, om, e⟩ := endsO_mem (throwsO_mem z.m0 hh) ht
    exact z.cl s hs o o0 om t e
end Law
namespace Law
open PySem L2 DL
def S_options : Fn := Sf true fun ds => match ds with
  | [d, .int m, .int p] => (st? d).bind fun s => if (0 ≤ m ∧ m ≤ 1000) ∧ 0 ≤ p ∧ p ≤ 1000 then some (rowsD (rowsO s m p)) else none
  | _ => none
theorem to_options : ∀ ds fr r o, S_options ds = some (fr, r, o) → Gives (runD [false, false, false] 1 (f_options S_slipped S_throws_of)) ds fr r := by
  refine sf_to fun ds r e => ?_
  split at e
  · rename_i d m p
    cases q : st? d with
    | none => rw [q] at e; cases e
    | some s =>
      rw [q] at e
      simp only [Option.bind_some] at e
      split at e
      · rename_i hb
        cases e
        obtain ⟨rfl, hl⟩ := st?_of q
        exact sp_options s m p hl hb.1 hb.2
      · cases e
  · cases e
theorem g_options (s : List Int) (m p : Int) (hs : s.length ≤ 1000) (hm : 0 ≤ m ∧ m ≤ 1000) (hp : 0 ≤ p ∧ p ≤ 1000) : Gives S_options [tupI s, .int m, .int p] true (rowsD (rowsO s m p)) :=
  sf_gives (by simp only [st?_tupI hs, Option.bind_some]; rw [if_pos ⟨hm, hp⟩])
theorem F0_keys (R : RT) : (F0 R).map (·.1) = R.map (·.1) := by
  unfold F0
  rw [List.map_map]
  rfl
theorem sp_clashes_of {b m p : Int} (z : Sz b m) (hp : 0 ≤ p ∧ p ≤ 1000) {F : FT'} (hF : whileC (RS b m p) 199 0 (F0 (RS b m p)) = some F) :
    Gives (runD [false, false, false] 8 (f_clashes_of S_all_states S_can_clash S_options)) [.int b, .int m, .int p] true (dF lvD F) := by
  have ok := RS_ok (p := p) z
  have e0 : En := [.val (.int b), .val (.int m), .val (.int p), .un, .un, .un, .un, .un, .un, .un, .un]
  have a1 : fSet 3 (fCompQ true (fiSeq (fCall [false, false] S_all_states (flCons (fLv 0) (flCons (fLv 1) flNil)))) (setE 8) fYes (fVar 8) (fCall [false, false, false] S_options (flCons (fLv 8) (flCons (fLv 1) (flCons (fLv 2) flNil)))) [8]) [.val (.int b), .val (.int m), .val (.int p), .un, .un, .un, .un, .un, .un, .un, .un]
      = some (.nx [.val (.int b), .val (.int m), .val (.int p), .val (dF rowsD (RS b m p)), .un, .un, .un, .un, .un, .un, .un]) := by
    refine set_of (fCompQ_new (ι := tupI) (xs := stS b m) (fun s => s) rowsD (fun s => rowsO s m p) (fun s => [.val (.int b), .val (.int m), .val (.int p), .un, .un, .un, .un, .un, .val (tupI s), .un, .un]) (env1 := [.val (.int b), .val (.int m), .val (.int p), .un, .un, .un, .un, .un, .un, .un, .un]) ?_ ?_ ?_ rfl rfl rfl fun s hs => ⟨rfl, rfl, ?_, rfl, rfl⟩) rfl
    · unfold fiSeq
      rw [fCall_gives (by decide) rfl rfl (g_all_states z.mem)]
      rfl
    · exact Nat.le_trans z.len (by decide)
    · rw [List.map_id']
      exact z.nd
    · exact fCall_gives (by decide) rfl rfl (g_options s m p (Nat.le_trans (z.sl s hs) (by decide)) ⟨z.m0, Int.le_trans z.m15 (by decide)⟩ hp)
  have a2 : fPar [4, 5, 6] (fmOwn (fCompQ true (fiKeysV 3) (setE 8) fYes (fVar 8) (fC .non) [8]) (fmVal (fC (.int 0)) (fmVal (fC (.bl true)) fmNil))) [.val (.int b), .val (.int m), .val (.int p), .val (dF rowsD (RS b m p)), .un, .un, .un, .un, .un, .un, .un]
      = some (.nx (cE b m p (RS b m p) (F0 (RS b m p)) 0 true .un .un .un)) := by
    have c := fCompQ_new (ι := fun x : List Int × Rows => tupI x.1) (xs := RS b m p) (fun x => x.1) lvD (fun _ => none) (fun x => [.val (.int b), .val (.int m), .val (.int p), .val (dF rowsD (RS b m p)), .un, .un, .un, .un, .val (tupI x.1), .un, .un]) (fi := fiKeysV 3) (g := setE 8) (fk := fVar 8) (fv := fC .non) (vs := [8])
      (env := [.val (.int b), .val (.int m), .val (.int p), .val (dF rowsD (RS b m p)), .un, .un, .un, .un, .un, .un, .un]) (env1 := [.val (.int b), .val (.int m), .val (.int p), .val (dF rowsD (RS b m p)), .un, .un, .un, .un, .un, .un, .un]) (keys_F rowsD 3 rfl) (Nat.le_trans ok.len (by decide)) (by rw [RS_keys]; exact z.nd) rfl rfl rfl fun x _ => ⟨rfl, rfl, rfl, rfl, rfl⟩
    unfold fPar fmOwn
    simp only [c]
    rfl
  obtain ⟨l', mv', t7, t8, t9, _, hw⟩ := while_ok (b := b) (m := m) (p := p) ok 199 (lap := 0) (F0_keys _) (s7 := .un) (s8 := .un) (s9 := .un) rfl rfl rfl hF
  refine gives_run (e := (cE b m p (RS b m p) F l' mv' t7 t8 t9).set 4 .un) rfl ?_
  show f_clashes_of S_all_states S_can_clash S_options [.val (.int b), .val (.int m), .val (.int p), .un, .un, .un, .un, .un, .un, .un, .un] = _
  unfold f_clashes_of
  exact seq_nx a1 (seq_nx a2 (seq_nx hw rfl))
/-- the loop ends -/
def nones (F : FT') : Nat := (F.filter fun p => p.2.isNone).length
end Law
namespace Law
open PySem L2 DL
def chkLot (x : Int × Int) : Bool := (rngI 0 6).all fun p => match N_check_lot [.int x.1, .int x.2, .int p] with
  | some (false, .non, _) => true
  | _ => false
theorem chkLot_all : ∀ x ∈ sizes, chkLot x = true := by decide +kernel
theorem sp_check_lot {b m p : Int} (h : (b, m) ∈ sizes) (hp : 0 ≤ p ∧ p ≤ 5) : Gives N_check_lot [.int b, .int m, .int p] false .non := by
  have := chkLot_all _ h
  unfold chkLot at this
  rw [List.all_eq_true] at this
  have := this p (mem_rngI.mpr (by omega))
  split at this
  · rename_i o e
    exact ⟨_, e⟩
  · cases this
def S_check_lot : Fn := Sf false fun ds => match ds with
  | [.int b, .int m, .int p] => if (b, m) ∈ sizes ∧ 0 ≤ p ∧ p ≤ 5 then some .non else none
  | _ => none
theorem to_check_lot : ∀ ds fr r o, S_check_lot ds = some (fr, r, o) → Gives N_check_lot ds fr r := by
  refine sf_to fun ds r e => ?_
  split at e
  · split at e
    · rename_i h
      cases e
      exact sp_check_lot h.1 h.2
    · cases e
  · cases e
theorem g_check_lot {b m p : Int} (h : (b, m) ∈ sizes) (hp : 0 ≤ p ∧ p ≤ 5) : Gives S_check_lot [.int b, .int m, .int p] false .non := sf_gives (by simp only [if_pos (show (b, m) ∈ sizes ∧ 0 ≤ p ∧ p ≤ 5 from ⟨h, hp⟩)])
/-- what clashes_of gives at a size -/
def lvls (b m p : Int) : Option FT' := whileC (RS b m p) 199 0 (F0 (RS b m p))
def S_clashes_of : Fn := Sf true fun ds => match ds with
  | [.int b, .int m, .int p] => if (b, m) ∈ sizes ∧ 0 ≤ p ∧ p ≤ 1000 then (lvls b m p).map (dF lvD) else none
  | _ => none
theorem to_clashes_of : ∀ ds fr r o, S_clashes_of ds = some (fr, r, o) → Gives (runD [false, false, false] 8 (f_clashes_of S_all_states S_can_clash S_options)) ds fr r := by
  refine sf_to fun ds r e => ?_
  split at e
  · split at e
    · rename_i b m p h
      cases q : lvls b m p with
      | none => rw [q] at e; cases e
      | some F =>
        rw [q] at e
        cases e
        exact sp_clashes_of (sz_of h.1) h.2 q
    · cases e
  · cases e
theorem g_clashes_of {b m p : Int} {F : FT'} (h : (b, m) ∈ sizes) (hp : 0 ≤ p ∧ p ≤ 1000) (hF : lvls b m p = some F) : Gives S_clashes_of [.int b, .int m, .int p] true (dF lvD F) :=
  sf_gives (by simp only [if_pos (show (b, m) ∈ sizes ∧ 0 ≤ p ∧ p ≤ 1000 from ⟨h, hp⟩), hF, Option.map_some])
/-! ### sorted(d) -/
def srtOk (x : Int × Int) : Bool := decide (sortT (stS x.1 x.2) = stS x.1 x.2) && (decide ((stS x.1 x.2).length ≤ 1) || decide (1 ≤ ((stS x.1 x.2).head?.getD []).length) && fitT ((stS x.1 x.2).head?.getD []).length (stS x.1 x.2))
theorem srt_all : ∀ x ∈ sizes, srtOk x = true := by decide +kernel
theorem iKeys_F {α : Type} (v : α → D) : ∀ F : List (List Int × α), iKeys? (F.map fun p => (ikey p.1, v p.2)) = some (F.map (·.1))
  | [] => rfl
  | p :: F => by
    have h : ∀ s : List Int, (ikey s).mapM (fun x : Key => match x with
      | .inl i => some i
      | .inr _ => none) = some s := by
      intro s
      induction s with
      | nil => rfl
      | cons x s ih =>
        show (Sum.inl x :: ikey s).mapM _ = _
        rw [List.mapM_cons, ih]
        rfl
    rw [List.map_cons, iKeys?, iKeys_F v F]
    erw [h]
    rfl
theorem sortD_F {α : Type} (v : α → D) {F : List (List Int × α)} {b m : Int} (h : (b, m) ∈ sizes) (hk : F.map (·.1) = stS b m) : gSortD [dF v F] = some (.lst ((stS b m).map tupI)) := by
  have := srt_all _ h
  unfold srtOk at this
  rw [Bool.and_eq_true, decide_eq_true_eq, Bool.or_eq_true, Bool.and_eq_true, decide_eq_true_eq, decide_eq_true_eq] at this
  obtain ⟨h1, h2⟩ := this
  unfold gSortD dF
  simp only [iKeys_F, hk]
  rw [if_pos h2, h1]
theorem whileC_keys {R : RT} : ∀ (n : Nat) {k : Int} {F F' : FT'}, whileC R n k F = some F' → F'.map (·.1) = F.map (·.1)
  | 0, _, _, _, h => by cases h
  | n + 1, k, F, F', h => by
    unfold whileC at h
    split at h
    · cases h; rfl
    · rw [whileC_keys n h, lapF_keys]
theorem lvls_keys {b m p : Int} {F : FT'} (h : lvls b m p = some F) : F.map (·.1) = stS b m := by
  rw [whileC_keys _ h, F0_keys, RS_keys]
def lvO (F : FT') (s : List Int) : Option Int := (lk F s).getD none
theorem lk_lvO {F : FT'} {s : List Int} (h : s ∈ F.map (·.1)) : lk F s = some (lvO F s) := by
  obtain ⟨v, hv⟩ := Option.isSome_iff_exists.mp (lk_isSome.mpr h)
  unfold lvO
  rw [hv]
  rfl
theorem sp_clashes {b m p : Int} {F : FT'} (h : (b, m) ∈ sizes) (hp : 0 ≤ p ∧ p ≤ 5) (hF : lvls b m p = some F) :
    Gives (runD [false, false, false] 2 (f_clashes S_check_lot S_clashes_of)) [.int b, .int m, .int p] false (.tup ((stS b m).map fun s => .tup [tupI s, lvD (lvO F s)])) := by
  have z := sz_of h
  have a0 : fDrop (fCall [false, false, false] S_check_lot (flCons (fLv 0) (flCons (fLv 1) (flCons (fLv 2) flNil)))) [.val (.int b), .val (.int m), .val (.int p), .un, .un] = some (.nx [.val (.int b), .val (.int m), .val (.int p), .un, .un]) := by
    unfold fDrop
    rw [fCall_gives (by decide) rfl rfl (g_check_lot h hp)]
    rfl
  have a1 : fSet 3 (fCall [false, false, false] S_clashes_of (flCons (fLv 0) (flCons (fLv 1) (flCons (fLv 2) flNil)))) [.val (.int b), .val (.int m), .val (.int p), .un, .un] = some (.nx [.val (.int b), .val (.int m), .val (.int p), .val (dF lvD F), .un]) :=
    set_of (fCall_gives (by decide) rfl rfl (g_clashes_of h (by omega) hF)) rfl
  have c := fComp_all (ι := tupI) (xs := stS b m) (fun s => .tup [tupI s, lvD (lvO F s)]) (fun s => [.val (.int b), .val (.int m), .val (.int p), .val (dF lvD F), .val (tupI s)]) (fi := fiSeq (fB gSortD (flCons (fLv 3) flNil))) (g := setE 4) (f := fTup (faCons (fVar 4) (faCons (fOp2 gIx (fLv 3) (fLv 4)) faNil))) (vs := [4])
    (env := [.val (.int b), .val (.int m), .val (.int p), .val (dF lvD F), .un]) (env1 := [.val (.int b), .val (.int m), .val (.int p), .val (dF lvD F), .un]) (by
      unfold fiSeq
      rw [fB1_of rfl rfl (sortD_F lvD h (lvls_keys hF))]
      rfl) (Nat.le_trans z.len (by decide)) rfl rfl rfl fun s hs => ⟨rfl, rfl, rfl, by
        have i1 : fOp2 gIx (fLv 3) (fLv 4) [.val (.int b), .val (.int m), .val (.int p), .val (dF lvD F), .val (tupI s)] = some (lvD (lvO F s), [.val (.int b), .val (.int m), .val (.int p), .val (dF lvD F), .val (tupI s)]) := op2_of rfl rfl rfl rfl (by rw [ix_F, lk_lvO (by rw [lvls_keys hF]; exact hs)]; rfl)
        unfold fTup faCons faNil
        have v4 : fVar 4 [.val (.int b), .val (.int m), .val (.int p), .val (dF lvD F), .val (tupI s)] = some (tupI s, [.val (.int b), .val (.int m), .val (.int p), .val (dF lvD F), .val (tupI s)]) := rfl
        simp only [v4, faCons, i1]
        rfl⟩
  refine gives_run (e := [.val (.int b), .val (.int m), .val (.int p), .val (dF lvD F), .un]) rfl ?_
  show f_clashes S_check_lot S_clashes_of [.val (.int b), .val (.int m), .val (.int p), .un, .un] = _
  unfold f_clashes
  exact seq_nx a0 (seq_nx a1 (ret_of (fB1_of (fLd_of c) rfl rfl)))
theorem sp_safe {b m p : Int} {F : FT'} (h : (b, m) ∈ sizes) (hp : 0 ≤ p ∧ p ≤ 5) (hF : lvls b m p = some F) :
    Gives (runD [false, false, false] 2 (f_safe S_check_lot S_clashes_of)) [.int b, .int m, .int p] false (.tup (((stS b m).filter fun s => (lvO F s).isNone).map tupI)) := by
  have z := sz_of h
  have a0 : fDrop (fCall [false, false, false] S_check_lot (flCons (fLv 0) (flCons (fLv 1) (flCons (fLv 2) flNil)))) [.val (.int b), .val (.int m), .val (.int p), .un, .un] = some (.nx [.val (.int b), .val (.int m), .val (.int p), .un, .un]) := by
    unfold fDrop
    rw [fCall_gives (by decide) rfl rfl (g_check_lot h hp)]
    rfl
  have a1 : fSet 3 (fCall [false, false, false] S_clashes_of (flCons (fLv 0) (flCons (fLv 1) (flCons (fLv 2) flNil)))) [.val (.int b), .val (.int m), .val (.int p), .un, .un] = some (.nx [.val (.int b), .val (.int m), .val (.int p), .val (dF lvD F), .un]) :=
    set_of (fCall_gives (by decide) rfl rfl (g_clashes_of h (by omega) hF)) rfl
  have c := fComp_on (ι := tupI) (xs := stS b m) (fun s => (lvO F s).isNone) tupI (fun s => [.val (.int b), .val (.int m), .val (.int p), .val (dF lvD F), .val (tupI s)]) (fi := fiSeq (fB gSortD (flCons (fLv 3) flNil))) (g := setE 4) (t := fTest (fOp2 gIs (fLd (fOp2 gIx (fLv 3) (fLv 4))) (fLd (fC .non)))) (f := fVar 4) (vs := [4])
    (env := [.val (.int b), .val (.int m), .val (.int p), .val (dF lvD F), .un]) (env1 := [.val (.int b), .val (.int m), .val (.int p), .val (dF lvD F), .un]) (by
      unfold fiSeq
      rw [fB1_of rfl rfl (sortD_F lvD h (lvls_keys hF))]
      rfl) (Nat.le_trans z.len (by decide)) rfl rfl rfl fun s hs => ⟨rfl, by
        have i1 : fOp2 gIx (fLv 3) (fLv 4) [.val (.int b), .val (.int m), .val (.int p), .val (dF lvD F), .val (tupI s)] = some (lvD (lvO F s), [.val (.int b), .val (.int m), .val (.int p), .val (dF lvD F), .val (tupI s)]) := op2_of rfl rfl rfl rfl (by rw [ix_F, lk_lvO (by rw [lvls_keys hF]; exact hs)]; rfl)
        refine test_op2 (fLd_of i1) rfl rfl rfl ?_
        cases lvO F s <;> rfl, rfl, rfl, fun _ => rfl⟩
  refine gives_run (e := [.val (.int b), .val (.int m), .val (.int p), .val (dF lvD F), .un]) rfl ?_
  show f_safe S_check_lot S_clashes_of [.val (.int b), .val (.int m), .val (.int p), .un, .un] = _
  unfold f_safe
  exact seq_nx a0 (seq_nx a1 (ret_of (fB1_of (fLd_of c) rfl rfl)))
end Law
namespace Law
open PySem L2 DL
theorem filter_lt {α : Type} {p q : α → Bool} : ∀ {xs : List α} {x : α}, (∀ y ∈ xs, q y = true → p y = true) → x ∈ xs → p x = true → q x = false → (xs.filter q).length < (xs.filter p).length
  | y :: xs, x, h, hx, hp, hq => by
    have sub : ∀ {xs : List α}, (∀ y ∈ xs, q y = true → p y = true) → (xs.filter q).length ≤ (xs.filter p).length := by
      intro xs
      induction xs with
      | nil => intro _; exact Nat.le_refl _
      | cons y xs ih =>
        intro h
        have i := ih fun z hz => h z (List.mem_cons_of_mem _ hz)
        cases e : q y with
        | true => rw [List.filter_cons_of_pos e, List.filter_cons_of_pos (h y List.mem_cons_self e), List.length_cons, List.length_cons]; omega
        | false =>
          rw [List.filter_cons_of_neg (by rw [e]; exact Bool.false_ne_true)]
          cases e2 : p y with
          | true => rw [List.filter_cons_of_pos e2, List.length_cons]; omega
          | false => rw [List.filter_cons_of_neg (by rw [e2]; exact Bool.false_ne_true)]; exact i
    rcases List.mem_cons.mp hx with e | hx
    · subst e
      rw [List.filter_cons_of_neg (by rw [hq]; exact Bool.false_ne_true), List.filter_cons_of_pos hp, List.length_cons]
      have := sub (xs := xs) fun z hz => h z (List.mem_cons_of_mem _ hz)
      omega
    · have i := filter_lt (xs := xs) (fun z hz => h z (List.mem_cons_of_mem _ hz)) hx hp hq
      cases e : q y with
      | true => rw [List.filter_cons_of_pos e, List.filter_cons_of_pos (h y List.mem_cons_self e), List.length_cons, List.length_cons]; omega
      | false =>
        rw [List.filter_cons_of_neg (by rw [e]; exact Bool.false_ne_true)]
        cases e2 : p y with
        | true => rw [List.filter_cons_of_pos e2, List.length_cons]; omega
        | false => rw [List.filter_cons_of_neg (by rw [e2]; exact Bool.false_ne_true)]; exact i
theorem lk_lapF {k : Int} {s : List Int} : ∀ {L : List (List Int)} {F : FT'}, lk (lapF k L F) s = if s ∈ L then (lk F s).map fun _ => some k else lk F s
  | [], F => by rw [if_neg (by simp)]; rfl
  | t :: L, F => by
    show lk (lapF k L (putF F t (some k))) s = _
    rw [lk_lapF, lk_putF]
    by_cases e : s = t
    · rw [if_pos e, if_pos (List.mem_cons.mpr (.inl e))]
      cases lk F s <;> simp
    · rw [if_neg e]
      by_cases e2 : s ∈ L
      · rw [if_pos e2, if_pos (List.mem_cons_of_mem _ e2)]
      · rw [if_neg e2, if_neg fun z => (List.mem_cons.mp z).elim e e2]
def isNo (F : FT') (s : List Int) : Bool := match lk F s with
  | some none => true
  | _ => false
theorem later_no {R : RT} {F : FT'} {s : List Int} (h : s ∈ laterC R F) : isNo F s = true := by
  obtain ⟨x, hx, rfl⟩ := List.mem_map.mp h
  have := (List.mem_filter.mp hx).2
  unfold isLater at this
  rw [Bool.and_eq_true] at this
  exact this.1
theorem whileC_some (R : RT) : ∀ (n : Nat) (k : Int) (F : FT'), ((R.map (·.1)).filter (isNo F)).length < n → ∃ F', whileC R n k F = some F'
  | 0, _, _, h => by omega
  | n + 1, k, F, h => by
    unfold whileC
    by_cases hL : laterC R F = []
    · exact ⟨F, by rw [if_pos hL]⟩
    · rw [if_neg hL]
      refine whileC_some R n _ _ ?_
      obtain ⟨s, L, e⟩ := List.exists_cons_of_ne_nil hL
      have hs : s ∈ laterC R F := by rw [e]; exact List.mem_cons_self
      have : ((R.map (·.1)).filter (isNo (lapF (k + 1) (laterC R F) F))).length < ((R.map (·.1)).filter (isNo F)).length := by
        refine filter_lt (x := s) (fun t _ ht => ?_) (laterC_mem s hs) (later_no hs) ?_
        · unfold isNo at ht ⊢
          rw [lk_lapF] at ht
          by_cases z : t ∈ laterC R F
          · exact later_no z
          · rw [if_neg z] at ht
            exact ht
        · unfold isNo
          rw [lk_lapF, if_pos hs]
          cases lk F s <;> rfl
      omega
theorem lvls_some {b m : Int} (p : Int) (z : Sz b m) : ∃ F, lvls b m p = some F := by
  refine whileC_some _ 199 0 _ ?_
  refine Nat.lt_of_le_of_lt (List.length_filter_le _ _) ?_
  rw [RS_keys]
  have := z.len
  omega
end Law
namespace Law
open PySem L2 DL
def chkFit (x : Int × Int) : Bool := (stS x.1 x.2).all fun s => decide ((s.length : Int) = x.1) && match N_check_fitting [tupI s, .int x.2] with
  | some (false, .non, _) => true
  | _ => false
theorem chkFit_all : ∀ x ∈ sizes, chkFit x = true := by decide +kernel
theorem sp_check_fitting {b m : Int} {s : List Int} (h : (b, m) ∈ sizes) (hs : s ∈ stS b m) : (s.length : Int) = b ∧ Gives N_check_fitting [tupI s, .int m] false .non := by
  have := chkFit_all _ h
  unfold chkFit at this
  rw [List.all_eq_true] at this
  have := this s hs
  rw [Bool.and_eq_true, decide_eq_true_eq] at this
  refine ⟨this.1, ?_⟩
  have := this.2
  split at this
  · rename_i o e
    exact ⟨_, e⟩
  · cases this
def S_check_fitting : Fn := Sf false fun ds => match ds with
  | [d, .int m] => (st? d).bind fun s => if ((s.length : Int), m) ∈ sizes ∧ s ∈ stS s.length m then some .non else none
  | _ => none
theorem to_check_fitting : ∀ ds fr r o, S_check_fitting ds = some (fr, r, o) → Gives N_check_fitting ds fr r := by
  refine sf_to fun ds r e => ?_
  split at e
  · rename_i d m
    cases q : st? d with
    | none => rw [q] at e; cases e
    | some s =>
      rw [q] at e
      simp only [Option.bind_some] at e
      split at e
      · rename_i hb
        cases e
        obtain ⟨rfl, _⟩ := st?_of q
        exact (sp_check_fitting hb.1 hb.2).2
      · cases e
  · cases e
theorem st_len {b m : Int} {s : List Int} (h : (b, m) ∈ sizes) (hs : s ∈ stS b m) : (s.length : Int) = b := (sp_check_fitting h hs).1
theorem g_check_fitting {b m : Int} {s : List Int} (h : (b, m) ∈ sizes) (hs : s ∈ stS b m) : Gives S_check_fitting [tupI s, .int m] false .non :=
  sf_gives (by
    simp only [st?_tupI (Nat.le_trans ((sz_of h).sl s hs) (by decide)), Option.bind_some]
    rw [st_len h hs, if_pos ⟨h, hs⟩])
def chkSlip : Bool := (rngI 0 6).all fun p => match N_check_slip [.int p] with
  | some (false, .non, _) => true
  | _ => false
theorem chkSlip_all : chkSlip = true := by decide +kernel
def S_check_slip : Fn := Sf false fun ds => match ds with
  | [.int p] => if 0 ≤ p ∧ p ≤ 5 then some .non else none
  | _ => none
theorem to_check_slip : ∀ ds fr r o, S_check_slip ds = some (fr, r, o) → Gives N_check_slip ds fr r := by
  refine sf_to fun ds r e => ?_
  split at e
  · split at e
    · rename_i p h
      cases e
      have := chkSlip_all
      unfold chkSlip at this
      rw [List.all_eq_true] at this
      have := this p (mem_rngI.mpr (by omega))
      split at this
      · rename_i o e
        exact ⟨_, e⟩
      · cases this
    · cases e
  · cases e
theorem g_check_slip {p : Int} (hp : 0 ≤ p ∧ p ≤ 5) : Gives S_check_slip [.int p] false .non := sf_gives (by simp only [if_pos hp])
end Law
namespace Law
open PySem L2 DL
theorem drop_call {ms : List Bool} {fn : Fn} {fs : FLs} {env e : En} {ls : List LV} {ds : List D} {fr : Bool} {r : D} (hm : ∀ m ∈ ms, m = false) (h1 : fs env = some (ls, e)) (h2 : argsOf ms ls e = some ds) (h3 : Gives fn ds fr r) : fDrop (fCall ms fn fs) env = some (.nx e) := by
  unfold fDrop
  rw [fCall_gives hm h1 h2 h3]
  rfl
theorem flCons_of {f : FL} {r : FLs} {env e1 e2 : En} {l : LV} {ls : List LV} (h1 : f env = some (l, e1)) (h2 : r e1 = some (ls, e2)) : flCons f r env = some (l :: ls, e2) := by
  unfold flCons
  simp only [h1, h2]
def safeT (F : FT') (s : List Int) (m p : Int) : List Int := (throwsO s m).filter fun h => !canC F (endsO s h m p)
theorem sp_safe_throws {b m p : Int} {s : List Int} {F : FT'} (h : (b, m) ∈ sizes) (hs : s ∈ stS b m) (hp : 0 ≤ p ∧ p ≤ 5) (hF : lvls b m p = some F) :
    Gives (runD [false, false, false] 4 (f_safe_throws S_can_clash S_check_fitting S_check_slip S_clashes_of S_slipped S_throws_of)) [tupI s, .int m, .int p] false (.tup ((safeT F s m p).map D.int)) := by
  have z := sz_of h
  have sl : s.length ≤ 1000 := Nat.le_trans (z.sl s hs) (by decide)
  have hm : 0 ≤ m ∧ m ≤ 1000 := ⟨z.m0, Int.le_trans z.m15 (by decide)⟩
  have a0 : fDrop (fCall [false, false] S_check_fitting (flCons (fLv 0) (flCons (fLv 1) flNil))) [.val (tupI s), .val (.int m), .val (.int p), .un, .un, .un, .un] = some (.nx [.val (tupI s), .val (.int m), .val (.int p), .un, .un, .un, .un]) := drop_call (by decide) rfl rfl (g_check_fitting h hs)
  have a1 : fDrop (fCall [false] S_check_slip (flCons (fLv 2) flNil)) [.val (tupI s), .val (.int m), .val (.int p), .un, .un, .un, .un] = some (.nx [.val (tupI s), .val (.int m), .val (.int p), .un, .un, .un, .un]) := drop_call (by decide) rfl rfl (g_check_slip hp)
  have a2 : fSet 3 (fCall [false, false, false] S_clashes_of (flCons (fLd (fB gLen (flCons (fLv 0) flNil))) (flCons (fLv 1) (flCons (fLv 2) flNil)))) [.val (tupI s), .val (.int m), .val (.int p), .un, .un, .un, .un] = some (.nx [.val (tupI s), .val (.int m), .val (.int p), .val (dF lvD F), .un, .un, .un]) := by
    have e : fB gLen (flCons (fLv 0) flNil) [.val (tupI s), .val (.int m), .val (.int p), .un, .un, .un, .un] = some (.int b, [.val (tupI s), .val (.int m), .val (.int p), .un, .un, .un, .un]) := fB1_of rfl rfl (by
      show some (D.int ((s.map D.int).length : Nat)) = _
      rw [List.length_map, st_len h hs])
    refine set_of (fCall_gives (by decide) (e := [.val (tupI s), .val (.int m), .val (.int p), .un, .un, .un, .un]) (ls := [.inr (.int b), .inl 1, .inl 2]) ?_ rfl (g_clashes_of h (by omega) hF)) rfl
    exact flCons_of (fLd_of e) rfl
  have hth : (throwsO s m).length ≤ mx := Nat.le_trans (throwsO_len ⟨z.m0, z.m15⟩) (by decide)
  have a3 : fSet 4 (fComp (fiSeq (fCall [false, false] S_throws_of (flCons (fLv 0) (flCons (fLv 1) flNil)))) (setE 5) fYes (fTup (faCons (fVar 5) (faCons (fCall [false, false, false, false] S_slipped (flCons (fLv 0) (flCons (fLv 5) (flCons (fLv 1) (flCons (fLv 2) flNil))))) faNil))) [5]) [.val (tupI s), .val (.int m), .val (.int p), .val (dF lvD F), .un, .un, .un]
      = some (.nx [.val (tupI s), .val (.int m), .val (.int p), .val (dF lvD F), .val (.lst ((throwsO s m).map fun h => .tup [.int h, endsD (endsO s h m p)])), .un, .un]) := by
    refine set_of (fComp_all (ι := D.int) (xs := throwsO s m) (fun h => .tup [.int h, endsD (endsO s h m p)]) (fun h => [.val (tupI s), .val (.int m), .val (.int p), .val (dF lvD F), .un, .val (.int h), .un]) (env1 := [.val (tupI s), .val (.int m), .val (.int p), .val (dF lvD F), .un, .un, .un]) ?_ hth rfl rfl rfl fun h' hh => ⟨rfl, rfl, rfl, ?_⟩) rfl
    · unfold fiSeq
      rw [fCall_gives (by decide) rfl rfl (g_throws_of s m sl hm)]
      rfl
    · have c : fCall [false, false, false, false] S_slipped (flCons (fLv 0) (flCons (fLv 5) (flCons (fLv 1) (flCons (fLv 2) flNil)))) [.val (tupI s), .val (.int m), .val (.int p), .val (dF lvD F), .un, .val (.int h'), .un] = some (endsD (endsO s h' m p), [.val (tupI s), .val (.int m), .val (.int p), .val (dF lvD F), .un, .val (.int h'), .un]) :=
        fCall_gives (by decide) rfl rfl (g_slipped s h' m p sl (throwsO_bd hm hh) hm (by omega))
      have v5 : fVar 5 [.val (tupI s), .val (.int m), .val (.int p), .val (dF lvD F), .un, .val (.int h'), .un] = some (.int h', [.val (tupI s), .val (.int m), .val (.int p), .val (dF lvD F), .un, .val (.int h'), .un]) := rfl
      unfold fTup faCons
      simp only [v5, faCons, c, faNil]
      rfl
  have c := fComp_on (ι := fun h => D.tup [.int h, endsD (endsO s h m p)]) (xs := throwsO s m) (fun h => !canC F (endsO s h m p)) (fun h => .int h) (fun h => [.val (tupI s), .val (.int m), .val (.int p), .val (dF lvD F), .val (.lst ((throwsO s m).map fun h => .tup [.int h, endsD (endsO s h m p)])), .val (.int h), .val (endsD (endsO s h m p))])
    (fi := fiSeq (fVar 4)) (g := fgTup (fgCons (setE 5) (fgCons (setE 6) fgNil)) 2) (t := ftNot (fTest (fCall [false, false] S_can_clash (flCons (fLv 3) (flCons (fLv 6) flNil))))) (f := fVar 5) (vs := [5, 6])
    (env := [.val (tupI s), .val (.int m), .val (.int p), .val (dF lvD F), .val (.lst ((throwsO s m).map fun h => .tup [.int h, endsD (endsO s h m p)])), .un, .un]) (env1 := [.val (tupI s), .val (.int m), .val (.int p), .val (dF lvD F), .val (.lst ((throwsO s m).map fun h => .tup [.int h, endsD (endsO s h m p)])), .un, .un])
    rfl hth rfl rfl rfl fun h' hh => ⟨rfl, by
      have g := cc_gives F (endsO s h' m p) (Nat.le_trans (endsO_len ⟨z.m0, z.m15⟩) (by decide)) fun t ht => lk_isSome.mpr (by
        rw [lvls_keys hF]
        obtain ⟨o, o0, om, e⟩ := endsO_mem (throwsO_mem z.m0 hh) ht
        exact z.cl s hs o o0 om t e)
      unfold ftNot
      rw [test_of' (fCall_gives (by decide) rfl rfl g)]
      rfl, rfl, rfl, fun _ => rfl⟩
  refine gives_run (e := [.val (tupI s), .val (.int m), .val (.int p), .val (dF lvD F), .val (.lst ((throwsO s m).map fun h => .tup [.int h, endsD (endsO s h m p)])), .un, .un]) rfl ?_
  show f_safe_throws S_can_clash S_check_fitting S_check_slip S_clashes_of S_slipped S_throws_of [.val (tupI s), .val (.int m), .val (.int p), .un, .un, .un, .un] = _
  unfold f_safe_throws
  exact seq_nx a0 (seq_nx a1 (seq_nx a2 (seq_nx a3 (ret_of (fB1_of (fLd_of c) rfl rfl)))))
end Law
namespace Law
open PySem L2 DL
def beatsOk : Option Int → Bool
  | none => true
  | some k => decide (1 ≤ k)
theorem sp_is_beats (x : Option Int) : Gives N_is_beats [lvD x] false (.bl (beatsOk x)) := by
  refine gives_run (e := [.val (lvD x)]) rfl ?_
  cases x with
  | none => rfl
  | some k => rfl
def lv? : D → Option (Option Int)
  | .non => some none
  | .int k => some (some k)
  | _ => none
theorem lv?_of {d : D} {x : Option Int} (h : lv? d = some x) : d = lvD x := by
  unfold lv? at h
  split at h
  · cases h; rfl
  · cases h; rfl
  · cases h
theorem lv?_lvD (x : Option Int) : lv? (lvD x) = some x := by cases x <;> rfl
def S_is_beats : Fn := Sf false fun ds => match ds with
  | [d] => (lv? d).map fun x => .bl (beatsOk x)
  | _ => none
theorem to_is_beats : ∀ ds fr r o, S_is_beats ds = some (fr, r, o) → Gives N_is_beats ds fr r := by
  refine sf_to fun ds r e => ?_
  split at e
  · rename_i d
    cases q : lv? d with
    | none => rw [q] at e; cases e
    | some x =>
      rw [q] at e
      cases e
      rw [lv?_of q]
      exact sp_is_beats x
  · cases e
theorem g_is_beats (x : Option Int) : Gives S_is_beats [lvD x] false (.bl (beatsOk x)) := sf_gives (by simp only [lv?_lvD, Option.map_some])
def chkSame (x : Int × Int) : Bool := (stS x.1 x.2).all fun s => match N_is_same [tupI s, tupI s] with
  | some (false, .bl true, _) => true
  | _ => false
theorem chkSame_all : ∀ x ∈ sizes, chkSame x = true := by decide +kernel
theorem sp_is_same {b m : Int} {s : List Int} (h : (b, m) ∈ sizes) (hs : s ∈ stS b m) : Gives N_is_same [tupI s, tupI s] false (.bl true) := by
  have := chkSame_all _ h
  unfold chkSame at this
  rw [List.all_eq_true] at this
  have := this s hs
  split at this
  · rename_i o e
    exact ⟨_, e⟩
  · cases this
theorem sp_is_tuple_t (xs : List D) (lo hi : Int) : Gives N_is_tuple [.tup xs, .int lo, .int hi] false (.bl (decide (lo ≤ xs.length) && decide ((xs.length : Int) ≤ hi))) := by
  refine gives_run (e := [.val (.tup xs), .val (.int lo), .val (.int hi)]) rfl ?_
  show f_is_tuple [.val (.tup xs), .val (.int lo), .val (.int hi)] = _
  by_cases h : lo ≤ (xs.length : Int)
  · simp [f_is_tuple, fRet, feAnd, fIsi, fLv, res, tnOf, isiB, fChain, fVar, fB, flCons, flNil, ress, gLen, gCmp, h]
  · simp [f_is_tuple, fRet, feAnd, fIsi, fLv, res, tnOf, isiB, fChain, fVar, fB, flCons, flNil, ress, gLen, gCmp, h]
end Law
namespace Law
open PySem L2 DL
def ffB (kvs : List (List Key × D)) (k : Int) (d : D) : Option Bool := match d with
  | .non => some true
  | .tup ks => match gIx (.dT kvs) (.tup ks) with
    | some .non => some false
    | some (.int j) => some (decide (j < k))
    | _ => none
  | _ => none
def S_is_forced : Fn := Sf false fun ds => match ds with
  | [.dT kvs, .int k, .lst ds] => if ds.length ≤ mx then (ds.mapM fun d => (ffB kvs k d).map D.bl).bind fun xs => gAny [.lst xs] else none
  | _ => none
theorem to_is_forced : ∀ ds fr r o, S_is_forced ds = some (fr, r, o) → Gives N_is_forced ds fr r := by
  refine sf_to fun ds r e => ?_
  split at e
  · rename_i kvs k ds
    split at e
    · rename_i hl
      cases q : ds.mapM fun d => (ffB kvs k d).map D.bl with
      | none => rw [q] at e; cases e
      | some xs =>
        rw [q] at e
        simp only [Option.bind_some] at e
        refine gives_run (e := [.val (.dT kvs), .val (.int k), .val (.lst ds), .un]) rfl ?_
        show f_is_forced [.val (.dT kvs), .val (.int k), .val (.lst ds), .un] = _
        have c := fComp_opt (φ := fun d => (ffB kvs k d).map D.bl) (fun d => [.val (.dT kvs), .val (.int k), .val (.lst ds), .val d]) (ds := ds) (xs := xs) (fi := fiSeq (fVar 2)) (g := setE 3) (f := feOr (fOp2 gIs (fLv 3) (fLd (fC .non))) (feAnd (fOp2 gIsNot (fLd (fOp2 gIx (fLv 0) (fLv 3))) (fLd (fC .non))) (fOp2 gLt (fLd (fOp2 gIx (fLv 0) (fLv 3))) (fLv 1)))) (vs := [3])
          (env := [.val (.dT kvs), .val (.int k), .val (.lst ds), .un]) (env1 := [.val (.dT kvs), .val (.int k), .val (.lst ds), .un]) rfl hl rfl rfl rfl (fun d _ x ex => ⟨rfl, rfl, rfl, ?_⟩) q
        · unfold f_is_forced
          exact ret_of (fB1_of (fLd_of c) rfl e)
        · unfold ffB at ex
          split at ex
          · cases ex; rfl
          · rename_i ks _m
            have o1 : fOp2 gIs (fLv 3) (fLd (fC .non)) [.val (.dT kvs), .val (.int k), .val (.lst ds), .val (.tup ks)] = some (.bl false, [.val (.dT kvs), .val (.int k), .val (.lst ds), .val (.tup ks)]) := rfl
            split at ex
            · rename_i q1
              cases ex
              have o2 : fOp2 gIx (fLv 0) (fLv 3) [.val (.dT kvs), .val (.int k), .val (.lst ds), .val (.tup ks)] = some (.non, [.val (.dT kvs), .val (.int k), .val (.lst ds), .val (.tup ks)]) := op2_of rfl rfl rfl rfl q1
              have o3 : fOp2 gIsNot (fLd (fOp2 gIx (fLv 0) (fLv 3))) (fLd (fC .non)) [.val (.dT kvs), .val (.int k), .val (.lst ds), .val (.tup ks)] = some (.bl false, _) := op2_of (fLd_of o2) rfl rfl rfl rfl
              unfold feOr
              rw [o1]
              show feAnd _ _ _ = _
              unfold feAnd
              rw [o3]
            · rename_i j q1
              cases ex
              have o2 : fOp2 gIx (fLv 0) (fLv 3) [.val (.dT kvs), .val (.int k), .val (.lst ds), .val (.tup ks)] = some (.int j, [.val (.dT kvs), .val (.int k), .val (.lst ds), .val (.tup ks)]) := op2_of rfl rfl rfl rfl q1
              have o3 : fOp2 gIsNot (fLd (fOp2 gIx (fLv 0) (fLv 3))) (fLd (fC .non)) [.val (.dT kvs), .val (.int k), .val (.lst ds), .val (.tup ks)] = some (.bl true, _) := op2_of (fLd_of o2) rfl rfl rfl rfl
              have o4 : fOp2 gLt (fLd (fOp2 gIx (fLv 0) (fLv 3))) (fLv 1) [.val (.dT kvs), .val (.int k), .val (.lst ds), .val (.tup ks)] = some (.bl (decide (j < k)), _) := op2_of (fLd_of o2) rfl rfl rfl rfl
              unfold feOr
              rw [o1]
              show feAnd _ _ _ = _
              unfold feAnd
              rw [o3]
              exact o4
            · cases ex
          · cases ex
    · cases e
  · cases e
def forcC (F : FT') (k : Int) (es : List (Option (List Int))) : Bool := es.any fun e => match e with
  | none => true
  | some s => match lk F s with
    | some (some j) => decide (j < k)
    | _ => false
theorem ff_gives (F : FT') (k : Int) (es : List (Option (List Int))) (hl : es.length ≤ 1000000) (hk : ∀ s, some s ∈ es → (lk F s).isSome = true) : Gives S_is_forced [dF lvD F, .int k, endsD es] false (.bl (forcC F k es)) := by
  refine sf_gives ?_
  show (if _ then _ else none) = _
  rw [if_pos (by rw [List.length_map]; exact hl), mapM_map, mapM_some (ψ := fun e => D.bl (match e with
    | none => true
    | some s => match lk F s with
      | some (some j) => decide (j < k)
      | _ => false))]
  · simp only [Option.bind_some]
    rw [show es.map (fun e => D.bl (match e with
      | none => true
      | some s => match lk F s with
        | some (some j) => decide (j < k)
        | _ => false)) = (es.map fun e => (match e with
      | none => true
      | some s => match lk F s with
        | some (some j) => decide (j < k)
        | _ => false)).map D.bl by rw [List.map_map]; rfl, any_bls, List.any_map]
    rfl
  · intro e he
    cases e with
    | none => rfl
    | some s =>
      have h := hk s he
      show (match tupI s with
        | .non => some true
        | .tup ks => match gIx (.dT _) (.tup ks) with
          | some .non => some false
          | some (.int j) => some (decide (j < k))
          | _ => none
        | _ => none).map D.bl = _
      cases q : lk F s with
      | none => rw [q] at h; cases h
      | some v =>
        have ix := ix_F lvD F s
        rw [q] at ix
        unfold dF tupI at ix
        unfold tupI
        simp only [ix, q, Option.map_some]
        cases v <;> rfl
end Law
namespace Law
open PySem L2 DL
def chkLS (x : Int × Int) : Bool := match N__law_states [.int x.1, .int x.2] with
  | some (false, .lst ds, _) => tupsI? ds == some (stS x.1 x.2)
  | _ => false
theorem chkLS_all : ∀ x ∈ sizes, chkLS x = true := by decide +kernel
theorem sp_law_states {b m : Int} (h : (b, m) ∈ sizes) : Gives N__law_states [.int b, .int m] false (.lst ((stS b m).map tupI)) := by
  have := chkLS_all _ h
  unfold chkLS at this
  split at this
  · rename_i ds o e
    rw [of_tupsI? (beq_iff_eq.mp this)] at e
    exact ⟨_, e⟩
  · cases this
def chkCh (x : Int × Int) : Bool := match N__law_choose [.int x.2, .int x.1] with
  | some (false, .int n, _) => n == ((stS x.1 x.2).length : Int)
  | _ => false
theorem chkCh_all : ∀ x ∈ sizes, chkCh x = true := by decide +kernel
theorem sp_law_choose {b m : Int} (h : (b, m) ∈ sizes) : Gives N__law_choose [.int m, .int b] false (.int (stS b m).length) := by
  have := chkCh_all _ h
  unfold chkCh at this
  split at this
  · rename_i n o e
    rw [beq_iff_eq.mp this] at e
    exact ⟨_, e⟩
  · cases this
def chkCan (x : Int × Int) : Bool := (stS x.1 x.2).all fun s => match N__law_can [tupI s, .int x.2] with
  | some (true, .lst ds, _) => ints? ds == some (throwsO s x.2)
  | _ => false
theorem chkCan_all : ∀ x ∈ sizes, chkCan x = true := by decide +kernel
theorem sp_law_can {b m : Int} {s : List Int} (h : (b, m) ∈ sizes) (hs : s ∈ stS b m) : Gives N__law_can [tupI s, .int m] true (.lst ((throwsO s m).map D.int)) := by
  have := chkCan_all _ h
  unfold chkCan at this
  rw [List.all_eq_true] at this
  have := this s hs
  split at this
  · rename_i ds o e
    rw [of_ints? (beq_iff_eq.mp this)] at e
    exact ⟨_, e⟩
  · cases this
/-- the law's own ends -/
def endL (s : List Int) (o : Int) : Option (List Int) := if o > 0 ∧ (restO s).any (fun n => n == o - 1) = true then none else some (sortI (restO s ++ if o > 0 then [o - 1] else []))
def chkEnd (x : Int × Int) : Bool := (stS x.1 x.2).all fun s => (rngI 0 (x.2 + 1)).all fun o => !(decide (o = 0) == !(s.any fun n => n == 0)) || decide (endL s o = behindO s o)
theorem chkEnd_all : ∀ x ∈ sizes, chkEnd x = true := by decide +kernel
end Law
namespace Law
open PySem L2 DL
theorem sp_is_tuple_p (xs : List D) (lo hi : Int) : Gives N_is_tuple [.ptp xs, .int lo, .int hi] false (.bl (decide (lo ≤ xs.length) && decide ((xs.length : Int) ≤ hi))) := by
  refine gives_run (e := [.val (.ptp xs), .val (.int lo), .val (.int hi)]) rfl ?_
  show f_is_tuple [.val (.ptp xs), .val (.int lo), .val (.int hi)] = _
  by_cases h : lo ≤ (xs.length : Int)
  · simp [f_is_tuple, fRet, feAnd, fIsi, fLv, res, tnOf, isiB, fChain, fVar, fB, flCons, flNil, ress, gLen, gCmp, h]
  · simp [f_is_tuple, fRet, feAnd, fIsi, fLv, res, tnOf, isiB, fChain, fVar, fB, flCons, flNil, ress, gLen, gCmp, h]
def S_is_tuple : Fn := Sf false fun ds => match ds with
  | [.tup xs, .int lo, .int hi] => some (.bl (decide (lo ≤ xs.length) && decide ((xs.length : Int) ≤ hi)))
  | [.ptp xs, .int lo, .int hi] => some (.bl (decide (lo ≤ xs.length) && decide ((xs.length : Int) ≤ hi)))
  | _ => none
theorem to_is_tuple : ∀ ds fr r o, S_is_tuple ds = some (fr, r, o) → Gives N_is_tuple ds fr r := by
  refine sf_to fun ds r e => ?_
  split at e
  · cases e; exact sp_is_tuple_t _ _ _
  · cases e; exact sp_is_tuple_p _ _ _
  · cases e
/-- a state of some size, the same twice -/
def S_is_same : Fn := Sf false fun ds => match ds with
  | [d, d2] => (st? d).bind fun s => (st? d2).bind fun t => if s = t ∧ sizes.any (fun x => (stS x.1 x.2).contains s) = true then some (.bl true) else none
  | _ => none
theorem to_is_same : ∀ ds fr r o, S_is_same ds = some (fr, r, o) → Gives N_is_same ds fr r := by
  refine sf_to fun ds r e => ?_
  split at e
  · rename_i d d2
    cases q : st? d with
    | none => rw [q] at e; cases e
    | some s =>
      cases q2 : st? d2 with
      | none => rw [q, q2] at e; cases e
      | some t =>
        rw [q, q2] at e
        simp only [Option.bind_some] at e
        split at e
        · rename_i hb
          cases e
          obtain ⟨rfl, hany⟩ := hb
          obtain ⟨rfl, _⟩ := st?_of q
          obtain ⟨rfl, _⟩ := st?_of q2
          obtain ⟨x, hx, hc⟩ := List.any_eq_true.mp hany
          exact sp_is_same (b := x.1) (m := x.2) hx (List.contains_iff_mem.mp hc)
        · cases e
  · cases e
theorem g_is_same {b m : Int} {s : List Int} (h : (b, m) ∈ sizes) (hs : s ∈ stS b m) : Gives S_is_same [tupI s, tupI s] false (.bl true) :=
  sf_gives (by
    have q := st?_tupI (s := s) (Nat.le_trans ((sz_of h).sl s hs) (by decide))
    simp only [q, Option.bind_some]
    rw [if_pos ⟨trivial, List.any_eq_true.mpr ⟨(b, m), h, List.contains_iff_mem.mpr hs⟩⟩])
/-- the told rows: state by state -/
def rowD (x : List Int × Option Int) : D := .tup [tupI x.1, lvD x.2]
end Law
namespace DL
open PySem L2
/-- a loop that leaves the def at the first item that is not ok -/
theorem loopD_ret {α : Type} {ι : α → D} {g : FG} {f : FS} (ok : α → Bool) (enc : En → Prop) {fr : Bool} {d : D} : ∀ {xs : List α} {env : En}, (∀ x ∈ xs, ∀ env, enc env → ∃ e1, g (ι x) env = some e1 ∧ ∃ e2, f e1 = some (if ok x then .nx e2 else .rt fr d e2) ∧ enc e2) → enc env →
    ∃ e2, loopD g f (xs.map ι) env = some (if xs.all ok then .nx e2 else .rt fr d e2) ∧ enc e2
  | [], env, _, h => ⟨env, rfl, h⟩
  | x :: xs, env, hs, h => by
    obtain ⟨e1, h1, e2, h2, h3⟩ := hs x List.mem_cons_self env h
    rw [List.map_cons, List.all_cons]
    cases q : ok x with
    | true =>
      rw [q, if_pos rfl] at h2
      obtain ⟨e3, h4, h5⟩ := loopD_ret (xs := xs) ok enc (fun y hy => hs y (List.mem_cons_of_mem _ hy)) h3
      refine ⟨e3, ?_, h5⟩
      unfold loopD
      simp only [h1, h2, h4, Bool.true_and]
    | false =>
      rw [q, if_neg Bool.false_ne_true] at h2
      refine ⟨e2, ?_, h3⟩
      unfold loopD
      simp only [h1, h2, Bool.false_and, Bool.false_eq_true, if_false]
end DL
namespace Law
open PySem L2 DL
theorem zip_keys {L : List (List Int)} {V : FT'} (h : V.map (·.1) = L) : (((L.map tupI).zip (V.map rowD)).map fun p => D.tup [p.1, p.2]) = V.map fun x => D.tup [tupI x.1, rowD x] := by
  subst h
  induction V with
  | nil => rfl
  | cons x V ih => simp only [List.map_cons, List.zip_cons_cons]; rw [ih]
theorem sp_is_row_of {b m : Int} {V : FT'} (h : (b, m) ∈ sizes) (hV : V.map (·.1) = stS b m) :
    Gives (runD [false, false] 2 (f_is_row_of S_is_beats S_is_same S_is_tuple)) [.lst ((stS b m).map tupI), .ptp (V.map rowD)] false (.bl (V.all fun x => beatsOk x.2)) := by
  have z := sz_of h
  have lV : V.length = (stS b m).length := by rw [← hV, List.length_map]
  have len0 : fLd (fB gLen (flCons (fLv 0) flNil)) [.val (.lst ((stS b m).map tupI)), .val (.ptp (V.map rowD)), .un, .un] = some (.inr (.int (stS b m).length), [.val (.lst ((stS b m).map tupI)), .val (.ptp (V.map rowD)), .un, .un]) := fLd_of (fB1_of rfl rfl (by
    show some (D.int (((stS b m).map tupI).length : Nat)) = _
    rw [List.length_map]))
  have t1 : fTest (fCall [false, false, false] S_is_tuple (flCons (fLv 1) (flCons (fLd (fB gLen (flCons (fLv 0) flNil))) (flCons (fLd (fB gLen (flCons (fLv 0) flNil))) flNil)))) [.val (.lst ((stS b m).map tupI)), .val (.ptp (V.map rowD)), .un, .un] = some (true, [.val (.lst ((stS b m).map tupI)), .val (.ptp (V.map rowD)), .un, .un]) := by
    refine test_of' (fCall_gives (ds := [.ptp (V.map rowD), .int (stS b m).length, .int (stS b m).length]) (fr := false) (by decide) (flCons_of rfl (flCons_of len0 (flCons_of len0 rfl))) rfl (sf_gives ?_))
    show some (D.bl (decide (((stS b m).length : Int) ≤ ((V.map rowD).length : Nat)) && decide (((V.map rowD).length : Int) ≤ (stS b m).length))) = _
    rw [List.length_map, lV]
    simp
  have c := fComp_all (ι := rowD) (xs := V) (fun _ => .bl true) (fun x => [.val (.lst ((stS b m).map tupI)), .val (.ptp (V.map rowD)), .un, .val (rowD x)]) (fi := fiSeq (fVar 1)) (g := setE 3) (f := fCall [false, false, false] S_is_tuple (flCons (fLv 3) (flCons (fLd (fC (.int 2))) (flCons (fLd (fC (.int 2))) flNil)))) (vs := [3])
    (env := [.val (.lst ((stS b m).map tupI)), .val (.ptp (V.map rowD)), .un, .un]) (env1 := [.val (.lst ((stS b m).map tupI)), .val (.ptp (V.map rowD)), .un, .un]) rfl (by rw [lV]; exact Nat.le_trans z.len (by decide)) rfl rfl rfl fun x _ => ⟨rfl, rfl, rfl, fCall_gives (fr := false) (by decide) rfl rfl (sf_gives rfl)⟩
  have t2 : fTest (fB gAll (flCons (fLd (fComp (fiSeq (fVar 1)) (setE 3) fYes (fCall [false, false, false] S_is_tuple (flCons (fLv 3) (flCons (fLd (fC (.int 2))) (flCons (fLd (fC (.int 2))) flNil)))) [3])) flNil)) [.val (.lst ((stS b m).map tupI)), .val (.ptp (V.map rowD)), .un, .un] = some (true, [.val (.lst ((stS b m).map tupI)), .val (.ptp (V.map rowD)), .un, .un]) := by
    refine test_of' (fB1_of (fLd_of c) rfl ?_)
    rw [show (V.map fun _ => D.bl true) = (V.map fun _ => true).map D.bl by rw [List.map_map]; rfl, all_bls, List.all_map]
    simp
  obtain ⟨e2, hl, he⟩ := loopD_ret (α := List Int × Option Int) (ι := fun x => D.tup [tupI x.1, rowD x]) (g := fgTup (fgCons (setE 2) (fgCons (setE 3) fgNil)) 2)
    (f := fIf (ftOr (ftNot (fTest (fCall [false, false] S_is_same (flCons (fLd (fOp2 gIx (fLv 3) (fLd (fC (.int 0))))) (flCons (fLv 2) flNil))))) (ftNot (fTest (fCall [false] S_is_beats (flCons (fLd (fOp2 gIx (fLv 3) (fLd (fC (.int 1))))) flNil))))) (fRet (fC (.bl false))) fSkip)
    (fun x => beatsOk x.2) (fun env => ∃ a b', a.mine = true ∧ b'.mine = true ∧ env = [.val (.lst ((stS b m).map tupI)), .val (.ptp (V.map rowD)), a, b']) (fr := false) (d := .bl false) (xs := V) (env := [.val (.lst ((stS b m).map tupI)), .val (.ptp (V.map rowD)), .un, .un]) (fun x hx env he => by
      obtain ⟨a, b', ma, mb, rfl⟩ := he
      have hs : x.1 ∈ stS b m := hV ▸ List.mem_map.mpr ⟨x, hx, rfl⟩
      refine ⟨[.val (.lst ((stS b m).map tupI)), .val (.ptp (V.map rowD)), .val (tupI x.1), .val (rowD x)], ?_, [.val (.lst ((stS b m).map tupI)), .val (.ptp (V.map rowD)), .val (tupI x.1), .val (rowD x)], ?_, _, _, rfl, rfl, rfl⟩
      · show (fgCons (setE 2) (fgCons (setE 3) fgNil)) [tupI x.1, rowD x] _ = _
        unfold fgCons
        simp only [setE_mine (i := 2) (env := [.val (.lst ((stS b m).map tupI)), .val (.ptp (V.map rowD)), a, b']) rfl ma]
        simp only [setE_mine (i := 3) (env := [.val (.lst ((stS b m).map tupI)), .val (.ptp (V.map rowD)), a, b'].set 2 (.val (tupI x.1))) rfl mb]
        rfl
      · have u1 : ftNot (fTest (fCall [false, false] S_is_same (flCons (fLd (fOp2 gIx (fLv 3) (fLd (fC (.int 0))))) (flCons (fLv 2) flNil)))) [.val (.lst ((stS b m).map tupI)), .val (.ptp (V.map rowD)), .val (tupI x.1), .val (rowD x)] = some (false, [.val (.lst ((stS b m).map tupI)), .val (.ptp (V.map rowD)), .val (tupI x.1), .val (rowD x)]) := by
          unfold ftNot
          rw [test_of' (fCall_gives (by decide) rfl rfl (g_is_same h hs))]
          rfl
        have u2 : ftNot (fTest (fCall [false] S_is_beats (flCons (fLd (fOp2 gIx (fLv 3) (fLd (fC (.int 1))))) flNil))) [.val (.lst ((stS b m).map tupI)), .val (.ptp (V.map rowD)), .val (tupI x.1), .val (rowD x)] = some (!beatsOk x.2, [.val (.lst ((stS b m).map tupI)), .val (.ptp (V.map rowD)), .val (tupI x.1), .val (rowD x)]) := by
          unfold ftNot
          rw [test_of' (fCall_gives (by decide) rfl rfl (g_is_beats x.2))]
          rfl
        cases q : beatsOk x.2 with
        | true =>
          rw [q] at u2
          exact if_ff (or_ff u1 u2) rfl
        | false =>
          rw [q] at u2
          exact if_tt (or_ff u1 u2) rfl) ⟨.un, .un, rfl, rfl, rfl⟩
  have hfor : fFor (fiZipM (faCons (fVar 0) (faCons (fVar 1) faNil))) (fgTup (fgCons (setE 2) (fgCons (setE 3) fgNil)) 2) (fIf (ftOr (ftNot (fTest (fCall [false, false] S_is_same (flCons (fLd (fOp2 gIx (fLv 3) (fLd (fC (.int 0))))) (flCons (fLv 2) flNil))))) (ftNot (fTest (fCall [false] S_is_beats (flCons (fLd (fOp2 gIx (fLv 3) (fLd (fC (.int 1))))) flNil))))) (fRet (fC (.bl false))) fSkip) [.val (.lst ((stS b m).map tupI)), .val (.ptp (V.map rowD)), .un, .un]
      = some (if V.all (fun x => beatsOk x.2) then .nx e2 else .rt false (.bl false) e2) := by
    refine forD_of (ds := V.map fun x => D.tup [tupI x.1, rowD x]) ?_ hl
    show some (((stS b m).map tupI |>.zip (V.map rowD) |>.map fun p => D.tup [p.1, p.2]), _) = _
    rw [zip_keys hV]
  refine gives_run (e := e2) rfl ?_
  show f_is_row_of S_is_beats S_is_same S_is_tuple [.val (.lst ((stS b m).map tupI)), .val (.ptp (V.map rowD)), .un, .un] = _
  unfold f_is_row_of
  have first : fIf (ftOr (ftNot (fTest (fCall [false, false, false] S_is_tuple (flCons (fLv 1) (flCons (fLd (fB gLen (flCons (fLv 0) flNil))) (flCons (fLd (fB gLen (flCons (fLv 0) flNil))) flNil)))))) (ftNot (fTest (fB gAll (flCons (fLd (fComp (fiSeq (fVar 1)) (setE 3) fYes (fCall [false, false, false] S_is_tuple (flCons (fLv 3) (flCons (fLd (fC (.int 2))) (flCons (fLd (fC (.int 2))) flNil)))) [3])) flNil))))) (fRet (fC (.bl false))) fSkip [.val (.lst ((stS b m).map tupI)), .val (.ptp (V.map rowD)), .un, .un] = some (.nx [.val (.lst ((stS b m).map tupI)), .val (.ptp (V.map rowD)), .un, .un]) := by
    refine if_ff (or_ff (e := [.val (.lst ((stS b m).map tupI)), .val (.ptp (V.map rowD)), .un, .un]) ?_ ?_) rfl
    · unfold ftNot
      rw [t1]
      rfl
    · unfold ftNot
      rw [t2]
      rfl
  refine seq_nx first ?_
  cases q : V.all (fun x => beatsOk x.2) with
  | true =>
    rw [q, if_pos rfl] at hfor
    exact seq_nx hfor rfl
  | false =>
    rw [q, if_neg Bool.false_ne_true] at hfor
    unfold fSeq
    rw [hfor]
end Law
namespace Law
open PySem L2 DL
def rows? : List D → Option FT'
  | [] => some []
  | .tup [.tup ks, v] :: r => match ints? ks, lv? v, rows? r with
    | some s, some x, some V => some ((s, x) :: V)
    | _, _, _ => none
  | _ => none
theorem of_rows? : ∀ {ds : List D} {V : FT'}, rows? ds = some V → ds = V.map rowD
  | [], V, h => by cases h; rfl
  | d :: r, V, h => by
    unfold rows? at h
    split at h
    · rename_i heq
      cases heq
    · rename_i ks v r' heq
      injection heq with h1 h2
      subst h1 h2
      split at h
      · rename_i s x W e1 e2 e3
        cases h
        rw [List.map_cons, of_ints? e1, lv?_of e2, of_rows? e3]
        rfl
      · cases h
    · cases h
theorem rows?_map : ∀ V : FT', rows? (V.map rowD) = some V
  | [] => rfl
  | (s, x) :: V => by
    show rows? (D.tup [.tup (s.map D.int), lvD x] :: V.map rowD) = _
    unfold rows?
    simp only [ints?_map, lv?_lvD, rows?_map V]
/-- a size whose states are these -/
def szOf (L : List (List Int)) : Option (Int × Int) := sizes.find? fun x => decide (stS x.1 x.2 = L)
def S_is_row_of : Fn := Sf false fun ds => match ds with
  | [.lst ls, .ptp rs] => (tupsI? ls).bind fun L => (rows? rs).bind fun V => (szOf L).bind fun _ => if V.map (·.1) = L then some (.bl (V.all fun x => beatsOk x.2)) else none
  | _ => none
theorem to_is_row_of : ∀ ds fr r o, S_is_row_of ds = some (fr, r, o) → Gives (runD [false, false] 2 (f_is_row_of S_is_beats S_is_same S_is_tuple)) ds fr r := by
  refine sf_to fun ds r e => ?_
  split at e
  · rename_i ls rs
    cases q1 : tupsI? ls with
    | none => rw [q1] at e; cases e
    | some L =>
      cases q2 : rows? rs with
      | none => rw [q1, q2] at e; cases e
      | some V =>
        cases q3 : szOf L with
        | none => rw [q1, q2] at e; simp only [Option.bind_some, q3] at e; cases e
        | some x =>
          rw [q1, q2] at e
          simp only [Option.bind_some, q3] at e
          split at e
          · rename_i hk
            cases e
            have hx := List.mem_of_find?_eq_some q3
            have hL : stS x.1 x.2 = L := of_decide_eq_true (List.find?_some (p := fun x : Int × Int => decide (stS x.1 x.2 = L)) q3)
            rw [of_tupsI? q1, of_rows? q2, ← hL]
            exact sp_is_row_of (b := x.1) (m := x.2) hx (hk.trans hL.symm)
          · cases e
  · cases e
end Law
namespace Law
open PySem L2 DL
theorem pairsD_rows : ∀ V : FT', pairsD (V.map rowD) = some (V.map fun x => (ikey x.1, lvD x.2))
  | [] => rfl
  | x :: V => by
    show pairsD (D.tup [.tup (x.1.map D.int), lvD x.2] :: V.map rowD) = _
    unfold pairsD
    simp only [keysOf_int, pairsD_rows V]
    rfl
theorem fold_new {α : Type} (v : α → D) : ∀ (V A : List (List Int × α)), (A.map (·.1) ++ V.map (·.1)).Nodup → ((V.map fun x => (ikey x.1, v x.2)).foldl (fun a p => dput a p.1 p.2) (A.map fun x => (ikey x.1, v x.2))) = (A ++ V).map fun x => (ikey x.1, v x.2)
  | [], A, _ => by rw [List.append_nil]; rfl
  | x :: V, A, nd => by
    have nk : x.1 ∉ A.map (·.1) := fun z => by
      rw [List.map_cons, List.nodup_append] at nd
      exact nd.2.2 _ z _ List.mem_cons_self rfl
    rw [List.map_cons, List.foldl_cons]
    show (V.map _).foldl _ (dput (A.map fun x => (ikey x.1, v x.2)) (ikey x.1) (v x.2)) = _
    rw [dput_new v x.2 nk, fold_new v V (A ++ [(x.1, x.2)]) (by
      rw [List.map_append, List.append_assoc]
      exact nd), List.append_assoc]
    rfl
theorem gDict_rows {V : FT'} (nd : (V.map (·.1)).Nodup) (hl : V.length ≤ mx) : gDict [.ptp (V.map rowD)] = some (dF lvD V) := by
  show (if (V.map rowD).length ≤ mx then (pairsD (V.map rowD)).map _ else none) = _
  rw [if_pos (by rw [List.length_map]; exact hl), pairsD_rows]
  have := fold_new lvD V [] (by simpa using nd)
  simp only [Option.map_some]
  unfold dF
  rw [show ((V.map fun x => (ikey x.1, lvD x.2)).foldl (fun a p => dput a p.1 p.2) []) = V.map fun x => (ikey x.1, lvD x.2) from this]
end Law
namespace Law
open PySem L2 DL
/-- one told row is right -/
def rowOk (V : FT') (m p : Int) (x : List Int × Option Int) : Bool := match x.2 with
  | none => !((rowsO x.1 m p).all (canC V))
  | some k => (rowsO x.1 m p).all (forcC V k)
def showsC (V : FT') (m p : Int) : Bool := (V.all fun x => beatsOk x.2) && V.all (rowOk V m p)
def sE (b m p : Int) (L : List (List Int)) (V : FT') (s6 s7 s8 : Sl) : En := [.val (.int b), .val (.int m), .val (.int p), .val (.ptp (V.map rowD)), .val (.lst (L.map tupI)), .val (dF lvD V), s6, s7, s8, .un]
abbrev bodyS : FS := fSeq (fSet 8 (fCall [false, false, false] S_options (flCons (fLv 6) (flCons (fLv 1) (flCons (fLv 2) flNil)))))
    (fIf (fTest (fOp2 gIs (fLv 7) (fLd (fC .non))))
    (fIf (fTest (fB gAll (flCons (fLd (fComp (fiSeq (fVar 8)) (setE 9) fYes (fCall [false, false] S_can_clash (flCons (fLv 5) (flCons (fLv 9) flNil))) [9])) flNil)))
    (fRet (fC (.bl false)))
    fSkip)
    (fIf (ftNot (fTest (fB gAll (flCons (fLd (fComp (fiSeq (fVar 8)) (setE 9) fYes (fCall [false, false, false] S_is_forced (flCons (fLv 5) (flCons (fLv 7) (flCons (fLv 9) flNil)))) [9])) flNil))))
    (fRet (fC (.bl false)))
    fSkip))
theorem bodyS_ok {b m p : Int} {L : List (List Int)} {V : FT'} {s8 : Sl} {x : List Int × Option Int} (z : Sz b m) (hp : 0 ≤ p ∧ p ≤ 1000) (hV : V.map (·.1) = stS b m) (hx : x.1 ∈ stS b m) (m8 : s8.mine = true) :
    bodyS (sE b m p L V (.val (tupI x.1)) (.val (lvD x.2)) s8) = some (if rowOk V m p x then .nx (sE b m p L V (.val (tupI x.1)) (.val (lvD x.2)) (.val (rowsD (rowsO x.1 m p)))) else .rt false (.bl false) (sE b m p L V (.val (tupI x.1)) (.val (lvD x.2)) (.val (rowsD (rowsO x.1 m p))))) := by
  have a1 : fSet 8 (fCall [false, false, false] S_options (flCons (fLv 6) (flCons (fLv 1) (flCons (fLv 2) flNil)))) (sE b m p L V (.val (tupI x.1)) (.val (lvD x.2)) s8) = some (.nx (sE b m p L V (.val (tupI x.1)) (.val (lvD x.2)) (.val (rowsD (rowsO x.1 m p))))) :=
    set_of (fCall_gives (by decide) rfl rfl (g_options x.1 m p (Nat.le_trans (z.sl _ hx) (by decide)) ⟨z.m0, Int.le_trans z.m15 (by decide)⟩ hp)) (setE_mine rfl m8)
  have rl : (rowsO x.1 m p).length ≤ mx := by
    unfold rowsO
    rw [List.length_map]
    exact Nat.le_trans (throwsO_len ⟨z.m0, z.m15⟩) (by decide)
  have re : ∀ es ∈ rowsO x.1 m p, es.length ≤ 1000000 ∧ ∀ t, some t ∈ es → (lk V t).isSome = true := fun es he => by
    obtain ⟨h, hh, rfl⟩ := List.mem_map.mp he
    refine ⟨Nat.le_trans (endsO_len ⟨z.m0, z.m15⟩) (by decide), fun t ht => lk_isSome.mpr ?_⟩
    rw [hV]
    obtain ⟨o, o0, om, e⟩ := endsO_mem (throwsO_mem z.m0 hh) ht
    exact z.cl _ hx o o0 om t e
  refine seq_nx a1 ?_
  obtain ⟨s, v⟩ := x
  cases v with
  | none =>
    have c := fComp_all (ι := endsD) (xs := rowsO s m p) (fun es => .bl (canC V es)) (fun es => (sE b m p L V (.val (tupI s)) (.val .non) (.val (rowsD (rowsO s m p)))).set 9 (.val (endsD es))) (fi := fiSeq (fVar 8)) (g := setE 9) (f := fCall [false, false] S_can_clash (flCons (fLv 5) (flCons (fLv 9) flNil))) (vs := [9])
      (env := sE b m p L V (.val (tupI s)) (.val .non) (.val (rowsD (rowsO s m p)))) (env1 := sE b m p L V (.val (tupI s)) (.val .non) (.val (rowsD (rowsO s m p)))) rfl rl rfl rfl rfl fun es he => ⟨rfl, rfl, rfl, fCall_gives (by decide) rfl rfl (cc_gives V es (re es he).1 (re es he).2)⟩
    refine if_tt (show _ = some (true, sE b m p L V (.val (tupI s)) (.val .non) (.val (rowsD (rowsO s m p)))) from rfl) ?_
    have t : fTest (fB gAll (flCons (fLd (fComp (fiSeq (fVar 8)) (setE 9) fYes (fCall [false, false] S_can_clash (flCons (fLv 5) (flCons (fLv 9) flNil))) [9])) flNil)) (sE b m p L V (.val (tupI s)) (.val .non) (.val (rowsD (rowsO s m p)))) = some ((rowsO s m p).all (canC V), sE b m p L V (.val (tupI s)) (.val .non) (.val (rowsD (rowsO s m p)))) := by
      refine test_of' (fB1_of (fLd_of c) rfl ?_)
      rw [show ((rowsO s m p).map fun es => D.bl (canC V es)) = ((rowsO s m p).map (canC V)).map D.bl by rw [List.map_map]; rfl, all_bls, List.all_map]
      rfl
    rw [show rowOk V m p (s, none) = !((rowsO s m p).all (canC V)) from rfl]
    cases q : (rowsO s m p).all (canC V) with
    | true => rw [q] at t; exact if_tt t rfl
    | false => rw [q] at t; exact if_ff t rfl
  | some k =>
    have c := fComp_all (ι := endsD) (xs := rowsO s m p) (fun es => .bl (forcC V k es)) (fun es => (sE b m p L V (.val (tupI s)) (.val (.int k)) (.val (rowsD (rowsO s m p)))).set 9 (.val (endsD es))) (fi := fiSeq (fVar 8)) (g := setE 9) (f := fCall [false, false, false] S_is_forced (flCons (fLv 5) (flCons (fLv 7) (flCons (fLv 9) flNil)))) (vs := [9])
      (env := sE b m p L V (.val (tupI s)) (.val (.int k)) (.val (rowsD (rowsO s m p)))) (env1 := sE b m p L V (.val (tupI s)) (.val (.int k)) (.val (rowsD (rowsO s m p)))) rfl rl rfl rfl rfl fun es he => ⟨rfl, rfl, rfl, fCall_gives (by decide) rfl rfl (ff_gives V k es (re es he).1 (re es he).2)⟩
    refine if_ff (show _ = some (false, sE b m p L V (.val (tupI s)) (.val (.int k)) (.val (rowsD (rowsO s m p)))) from rfl) ?_
    have t : ftNot (fTest (fB gAll (flCons (fLd (fComp (fiSeq (fVar 8)) (setE 9) fYes (fCall [false, false, false] S_is_forced (flCons (fLv 5) (flCons (fLv 7) (flCons (fLv 9) flNil)))) [9])) flNil))) (sE b m p L V (.val (tupI s)) (.val (.int k)) (.val (rowsD (rowsO s m p)))) = some (!(rowsO s m p).all (forcC V k), sE b m p L V (.val (tupI s)) (.val (.int k)) (.val (rowsD (rowsO s m p)))) := by
      unfold ftNot
      rw [test_of' (k := (rowsO s m p).all (forcC V k)) (fB1_of (fLd_of c) rfl (by
        rw [show ((rowsO s m p).map fun es => D.bl (forcC V k es)) = ((rowsO s m p).map (forcC V k)).map D.bl by rw [List.map_map]; rfl, all_bls, List.all_map]
        rfl))]
      rfl
    rw [show rowOk V m p (s, some k) = (rowsO s m p).all (forcC V k) from rfl]
    cases q : (rowsO s m p).all (forcC V k) with
    | true => rw [q] at t; exact if_ff t rfl
    | false => rw [q] at t; exact if_tt t rfl
end Law
namespace Law
open PySem L2 DL
theorem g_is_row_of {b m : Int} {V : FT'} (h : (b, m) ∈ sizes) (hV : V.map (·.1) = stS b m) : Gives S_is_row_of [.lst ((stS b m).map tupI), .ptp (V.map rowD)] false (.bl (V.all fun x => beatsOk x.2)) := by
  refine sf_gives ?_
  have q : (szOf (stS b m)).isSome = true := List.find?_isSome.mpr ⟨(b, m), h, decide_eq_true rfl⟩
  obtain ⟨x, hx⟩ := Option.isSome_iff_exists.mp q
  simp only [tupsI?_map, rows?_map, hx, Option.bind_some, if_pos hV]
theorem sp_shows_clashes {b m p : Int} {V : FT'} (h : (b, m) ∈ sizes) (hp : 0 ≤ p ∧ p ≤ 5) (hV : V.map (·.1) = stS b m) :
    Gives (runD [false, false, false, false] 6 (f_shows_clashes S_all_states S_can_clash S_check_lot S_is_forced S_is_row_of S_options)) [.int b, .int m, .int p, .ptp (V.map rowD)] false (.bl (showsC V m p)) := by
  have z := sz_of h
  have a0 : fDrop (fCall [false, false, false] S_check_lot (flCons (fLv 0) (flCons (fLv 1) (flCons (fLv 2) flNil)))) [.val (.int b), .val (.int m), .val (.int p), .val (.ptp (V.map rowD)), .un, .un, .un, .un, .un, .un] = some (.nx [.val (.int b), .val (.int m), .val (.int p), .val (.ptp (V.map rowD)), .un, .un, .un, .un, .un, .un]) := drop_call (by decide) rfl rfl (g_check_lot h hp)
  have a1 : fSet 4 (fCall [false, false] S_all_states (flCons (fLv 0) (flCons (fLv 1) flNil))) [.val (.int b), .val (.int m), .val (.int p), .val (.ptp (V.map rowD)), .un, .un, .un, .un, .un, .un] = some (.nx [.val (.int b), .val (.int m), .val (.int p), .val (.ptp (V.map rowD)), .val (.lst ((stS b m).map tupI)), .un, .un, .un, .un, .un]) :=
    set_of (fCall_gives (by decide) rfl rfl (g_all_states h)) rfl
  have t2 : ftNot (fTest (fCall [false, false] S_is_row_of (flCons (fLv 4) (flCons (fLv 3) flNil)))) [.val (.int b), .val (.int m), .val (.int p), .val (.ptp (V.map rowD)), .val (.lst ((stS b m).map tupI)), .un, .un, .un, .un, .un] = some (!(V.all fun x => beatsOk x.2), [.val (.int b), .val (.int m), .val (.int p), .val (.ptp (V.map rowD)), .val (.lst ((stS b m).map tupI)), .un, .un, .un, .un, .un]) := by
    unfold ftNot
    rw [test_of' (fCall_gives (by decide) rfl rfl (g_is_row_of h hV))]
    rfl
  unfold showsC
  cases q : V.all fun x => beatsOk x.2 with
  | false =>
    rw [q] at t2
    refine gives_run (e := [.val (.int b), .val (.int m), .val (.int p), .val (.ptp (V.map rowD)), .val (.lst ((stS b m).map tupI)), .un, .un, .un, .un, .un]) rfl ?_
    show f_shows_clashes S_all_states S_can_clash S_check_lot S_is_forced S_is_row_of S_options [.val (.int b), .val (.int m), .val (.int p), .val (.ptp (V.map rowD)), .un, .un, .un, .un, .un, .un] = _
    unfold f_shows_clashes
    refine seq_nx a0 (seq_nx a1 ?_)
    have s2 : fIf (ftNot (fTest (fCall [false, false] S_is_row_of (flCons (fLv 4) (flCons (fLv 3) flNil))))) (fRet (fC (.bl false))) fSkip [.val (.int b), .val (.int m), .val (.int p), .val (.ptp (V.map rowD)), .val (.lst ((stS b m).map tupI)), .un, .un, .un, .un, .un] = some (.rt false (.bl false) [.val (.int b), .val (.int m), .val (.int p), .val (.ptp (V.map rowD)), .val (.lst ((stS b m).map tupI)), .un, .un, .un, .un, .un]) := if_tt t2 rfl
    unfold fSeq
    rw [s2]
    rfl
  | true =>
    rw [q] at t2
    have s2 : fIf (ftNot (fTest (fCall [false, false] S_is_row_of (flCons (fLv 4) (flCons (fLv 3) flNil))))) (fRet (fC (.bl false))) fSkip [.val (.int b), .val (.int m), .val (.int p), .val (.ptp (V.map rowD)), .val (.lst ((stS b m).map tupI)), .un, .un, .un, .un, .un] = some (.nx [.val (.int b), .val (.int m), .val (.int p), .val (.ptp (V.map rowD)), .val (.lst ((stS b m).map tupI)), .un, .un, .un, .un, .un]) := if_ff t2 rfl
    have lV : V.length = (stS b m).length := by rw [← hV, List.length_map]
    have a3 : fSet 5 (fB gDict (flCons (fLv 3) flNil)) [.val (.int b), .val (.int m), .val (.int p), .val (.ptp (V.map rowD)), .val (.lst ((stS b m).map tupI)), .un, .un, .un, .un, .un] = some (.nx (sE b m p (stS b m) V .un .un .un)) :=
      set_of (fB1_of rfl rfl (gDict_rows (by rw [hV]; exact z.nd) (by rw [lV]; exact Nat.le_trans z.len (by decide)))) rfl
    obtain ⟨e2, hl, he⟩ := loopD_ret (α := List Int × Option Int) (ι := fun x => D.tup [tupI x.1, lvD x.2]) (g := fgTup (fgCons (setE 6) (fgCons (setE 7) fgNil)) 2) (f := bodyS)
      (rowOk V m p) (fun env => ∃ s6 s7 s8, s6.mine = true ∧ s7.mine = true ∧ s8.mine = true ∧ env = sE b m p (stS b m) V s6 s7 s8) (fr := false) (d := .bl false) (xs := V) (env := sE b m p (stS b m) V .un .un .un) (fun x hx env he => by
        obtain ⟨s6, s7, s8, m6, m7, m8, rfl⟩ := he
        refine ⟨sE b m p (stS b m) V (.val (tupI x.1)) (.val (lvD x.2)) s8, ?_, sE b m p (stS b m) V (.val (tupI x.1)) (.val (lvD x.2)) (.val (rowsD (rowsO x.1 m p))), bodyS_ok z ⟨hp.1, Int.le_trans hp.2 (by decide)⟩ hV (hV ▸ List.mem_map.mpr ⟨x, hx, rfl⟩) m8, _, _, _, rfl, rfl, rfl, rfl⟩
        show (fgCons (setE 6) (fgCons (setE 7) fgNil)) [tupI x.1, lvD x.2] _ = _
        unfold fgCons
        simp only [setE_mine (i := 6) (env := sE b m p (stS b m) V s6 s7 s8) rfl m6]
        simp only [setE_mine (i := 7) (env := (sE b m p (stS b m) V s6 s7 s8).set 6 (.val (tupI x.1))) rfl m7]
        rfl) ⟨.un, .un, .un, rfl, rfl, rfl, rfl⟩
    have hfor : fFor (fiItems 5) (fgTup (fgCons (setE 6) (fgCons (setE 7) fgNil)) 2) bodyS (sE b m p (stS b m) V .un .un .un) = some (if V.all (rowOk V m p) then .nx e2 else .rt false (.bl false) e2) :=
      forD_of (items_F lvD 5 rfl) hl
    refine gives_run (e := e2) rfl ?_
    show f_shows_clashes S_all_states S_can_clash S_check_lot S_is_forced S_is_row_of S_options [.val (.int b), .val (.int m), .val (.int p), .val (.ptp (V.map rowD)), .un, .un, .un, .un, .un, .un] = _
    unfold f_shows_clashes
    refine seq_nx a0 (seq_nx a1 (seq_nx s2 (seq_nx a3 ?_)))
    rw [Bool.true_and]
    cases q2 : V.all (rowOk V m p) with
    | true =>
      rw [q2, if_pos rfl] at hfor
      exact seq_nx hfor rfl
    | false =>
      rw [q2, if_neg Bool.false_ne_true] at hfor
      unfold fSeq
      unfold bodyS at hfor
      unfold fSeq at hfor
      rw [hfor]
end Law
namespace Law
open PySem L2 DL
def S_shows_clashes : Fn := Sf false fun ds => match ds with
  | [.int b, .int m, .int p, .ptp rs] => (rows? rs).bind fun V => if (b, m) ∈ sizes ∧ (0 ≤ p ∧ p ≤ 5) ∧ V.map (·.1) = stS b m then some (.bl (showsC V m p)) else none
  | _ => none
theorem to_shows_clashes : ∀ ds fr r o, S_shows_clashes ds = some (fr, r, o) → Gives (runD [false, false, false, false] 6 (f_shows_clashes S_all_states S_can_clash S_check_lot S_is_forced S_is_row_of S_options)) ds fr r := by
  refine sf_to fun ds r e => ?_
  split at e
  · rename_i b m p rs
    cases q : rows? rs with
    | none => rw [q] at e; cases e
    | some V =>
      rw [q] at e
      simp only [Option.bind_some] at e
      split at e
      · rename_i h
        cases e
        rw [of_rows? q]
        exact sp_shows_clashes h.1 h.2.1 h.2.2
      · cases e
  · cases e
theorem g_shows_clashes {b m p : Int} {V : FT'} (h : (b, m) ∈ sizes) (hp : 0 ≤ p ∧ p ≤ 5) (hV : V.map (·.1) = stS b m) : Gives S_shows_clashes [.int b, .int m, .int p, .ptp (V.map rowD)] false (.bl (showsC V m p)) :=
  sf_gives (by simp only [rows?_map, Option.bind_some]; rw [if_pos ⟨h, hp, hV⟩])
/-- the states from which a clash can be kept off -/
def safeS (b m : Int) (F : FT') : List (List Int) := (stS b m).filter fun s => (lvO F s).isNone
/-- what is due of all states -/
def dueL (b m : Int) (F : FT') : FT' := (stS b m).map fun s => (s, lvO F s)
theorem dueL_keys {b m : Int} {F : FT'} : (dueL b m F).map (·.1) = stS b m := by
  unfold dueL
  rw [List.map_map]
  exact List.map_id _
def via (b m p : Int) (φ : FT' → D) : Option D := if (b, m) ∈ sizes ∧ 0 ≤ p ∧ p ≤ 5 then (lvls b m p).map φ else none
theorem via_of {b m p : Int} {φ : FT' → D} {r : D} (h : via b m p φ = some r) : (b, m) ∈ sizes ∧ (0 ≤ p ∧ p ≤ 5) ∧ ∃ F, lvls b m p = some F ∧ r = φ F := by
  unfold via at h
  split at h
  · rename_i hc
    cases q : lvls b m p with
    | none => rw [q] at h; cases h
    | some F => rw [q] at h; cases h; exact ⟨hc.1, hc.2, F, rfl, rfl⟩
  · cases h
theorem via_is {b m p : Int} {φ : FT' → D} {F : FT'} (h : (b, m) ∈ sizes) (hp : 0 ≤ p ∧ p ≤ 5) (hF : lvls b m p = some F) : via b m p φ = some (φ F) := by
  unfold via
  rw [if_pos ⟨h, hp⟩, hF]
  rfl
def S_clashes : Fn := Sf false fun ds => match ds with
  | [.int b, .int m, .int p] => via b m p fun F => .tup ((dueL b m F).map rowD)
  | _ => none
theorem to_clashes : ∀ ds fr r o, S_clashes ds = some (fr, r, o) → Gives (runD [false, false, false] 2 (f_clashes S_check_lot S_clashes_of)) ds fr r := by
  refine sf_to fun ds r e => ?_
  split at e
  · obtain ⟨h, hp, F, hF, rfl⟩ := via_of e
    have := sp_clashes h hp hF
    show Gives _ _ _ (.tup ((dueL _ _ F).map rowD))
    unfold dueL
    rw [List.map_map]
    exact this
  · cases e
theorem g_clashes {b m p : Int} {F : FT'} (h : (b, m) ∈ sizes) (hp : 0 ≤ p ∧ p ≤ 5) (hF : lvls b m p = some F) : Gives S_clashes [.int b, .int m, .int p] false (.tup ((dueL b m F).map rowD)) := sf_gives (via_is h hp hF)
def S_safe : Fn := Sf false fun ds => match ds with
  | [.int b, .int m, .int p] => via b m p fun F => .tup ((safeS b m F).map tupI)
  | _ => none
theorem to_safe : ∀ ds fr r o, S_safe ds = some (fr, r, o) → Gives (runD [false, false, false] 2 (f_safe S_check_lot S_clashes_of)) ds fr r := by
  refine sf_to fun ds r e => ?_
  split at e
  · obtain ⟨h, hp, F, hF, rfl⟩ := via_of e
    exact sp_safe h hp hF
  · cases e
theorem g_safe {b m p : Int} {F : FT'} (h : (b, m) ∈ sizes) (hp : 0 ≤ p ∧ p ≤ 5) (hF : lvls b m p = some F) : Gives S_safe [.int b, .int m, .int p] false (.tup ((safeS b m F).map tupI)) := sf_gives (via_is h hp hF)
def S_safe_throws : Fn := Sf false fun ds => match ds with
  | [d, .int m, .int p] => (st? d).bind fun s => if s ∈ stS s.length m then via s.length m p fun F => .tup ((safeT F s m p).map D.int) else none
  | _ => none
theorem to_safe_throws : ∀ ds fr r o, S_safe_throws ds = some (fr, r, o) → Gives (runD [false, false, false] 4 (f_safe_throws S_can_clash S_check_fitting S_check_slip S_clashes_of S_slipped S_throws_of)) ds fr r := by
  refine sf_to fun ds r e => ?_
  split at e
  · rename_i d m p
    cases q : st? d with
    | none => rw [q] at e; cases e
    | some s =>
      rw [q] at e
      simp only [Option.bind_some] at e
      split at e
      · rename_i hs
        obtain ⟨h, hp, F, hF, rfl⟩ := via_of e
        obtain ⟨rfl, _⟩ := st?_of q
        exact sp_safe_throws h hs hp hF
      · cases e
  · cases e
theorem g_safe_throws {b m p : Int} {s : List Int} {F : FT'} (h : (b, m) ∈ sizes) (hs : s ∈ stS b m) (hp : 0 ≤ p ∧ p ≤ 5) (hF : lvls b m p = some F) : Gives S_safe_throws [tupI s, .int m, .int p] false (.tup ((safeT F s m p).map D.int)) := by
  have hl := st_len h hs
  refine sf_gives ?_
  simp only [st?_tupI (Nat.le_trans ((sz_of h).sl s hs) (by decide)), Option.bind_some, hl, if_pos hs]
  exact via_is h hp hF
end Law
namespace DL
open PySem L2
theorem sortL_id {α : Type} {le : α → α → Bool} : ∀ {l : List α}, l.Pairwise (fun a b => le a b = true) → sortL le l = l
  | [], _ => rfl
  | x :: xs, h => by
    obtain ⟨h1, h2⟩ := List.pairwise_cons.mp h
    rw [sortL, sortL_id h2]
    cases xs with
    | nil => rfl
    | cons y ys => rw [insL, if_pos (h1 y List.mem_cons_self)]
end DL
namespace Law
open PySem L2 DL
theorem srt_of {b m : Int} (h : (b, m) ∈ sizes) : sortT (stS b m) = stS b m ∧ ((stS b m).length ≤ 1 ∨ 1 ≤ ((stS b m).head?.getD []).length ∧ fitT ((stS b m).head?.getD []).length (stS b m) = true) := by
  have := srt_all _ h
  unfold srtOk at this
  rw [Bool.and_eq_true, decide_eq_true_eq, Bool.or_eq_true, Bool.and_eq_true, decide_eq_true_eq, decide_eq_true_eq] at this
  exact this
theorem sortT_sub {b m : Int} {L : List (List Int)} (h : (b, m) ∈ sizes) (hs : L.Sublist (stS b m)) : sortT L = L := by
  have p := sortT_sorted (stS b m)
  rw [(srt_of h).1] at p
  exact sortL_id ((p.sublist hs).imp fun h => decide_eq_true h)
theorem fit_sub {b m : Int} {L : List (List Int)} (h : (b, m) ∈ sizes) (hs : L.Sublist (stS b m)) : L.length ≤ 1 ∨ 1 ≤ (L.head?.getD []).length ∧ fitT (L.head?.getD []).length L = true := by
  rcases (srt_of h).2 with e | ⟨e1, e2⟩
  · exact .inl (Nat.le_trans hs.length_le e)
  · cases L with
    | nil => exact .inl (Nat.zero_le _)
    | cons x L =>
      have hx := (fitT_mem e2 (hs.subset List.mem_cons_self)).1
      refine .inr ⟨?_, ?_⟩
      · show 1 ≤ x.length
        omega
      · show fitT x.length (x :: L) = true
        rw [hx]
        unfold fitT at e2 ⊢
        rw [Bool.and_eq_true, decide_eq_true_eq, List.all_eq_true] at e2 ⊢
        exact ⟨Nat.lt_of_le_of_lt hs.length_le e2.1, fun y hy => e2.2 y (hs.subset hy)⟩
theorem sortD_sub {α : Type} (v : α → D) {F : List (List Int × α)} {b m : Int} (h : (b, m) ∈ sizes) (hk : (F.map (·.1)).Sublist (stS b m)) : gSortD [dF v F] = some (.lst ((F.map (·.1)).map tupI)) := by
  unfold gSortD dF
  simp only [iKeys_F]
  rw [if_pos (fit_sub h hk), sortT_sub h hk]
/-! ### a loop that puts numbers, lap by lap -/
def whileG (later : FT' → List (List Int)) : Nat → Int → FT' → Option FT'
  | 0, _, _ => none
  | n + 1, k, F => if later F = [] then some F else whileG later n (k + 1) (lapF (k + 1) (later F) F)
theorem whileG_some {later : FT' → List (List Int)} {Ks : List (List Int)} (hl : ∀ F, ∀ s ∈ later F, s ∈ Ks ∧ isNo F s = true) : ∀ (n : Nat) (k : Int) (F : FT'), (Ks.filter (isNo F)).length < n → ∃ F', whileG later n k F = some F'
  | 0, _, _, h => by omega
  | n + 1, k, F, h => by
    unfold whileG
    by_cases hL : later F = []
    · exact ⟨F, by rw [if_pos hL]⟩
    · rw [if_neg hL]
      refine whileG_some hl n _ _ ?_
      obtain ⟨s, L, e⟩ := List.exists_cons_of_ne_nil hL
      have hs : s ∈ later F := by rw [e]; exact List.mem_cons_self
      have : (Ks.filter (isNo (lapF (k + 1) (later F) F))).length < (Ks.filter (isNo F)).length := by
        refine filter_lt (x := s) (fun t _ ht => ?_) (hl F s hs).1 (hl F s hs).2 ?_
        · unfold isNo at ht ⊢
          rw [lk_lapF] at ht
          by_cases z : t ∈ later F
          · exact (hl F t z).2
          · rw [if_neg z] at ht
            exact ht
        · unfold isNo
          rw [lk_lapF, if_pos hs]
          cases lk F s <;> rfl
      omega
theorem whileG_keys {later : FT' → List (List Int)} : ∀ (n : Nat) {k : Int} {F F' : FT'}, whileG later n k F = some F' → F'.map (·.1) = F.map (·.1)
  | 0, _, _, _, h => by cases h
  | n + 1, k, F, F', h => by
    unfold whileG at h
    split at h
    · cases h; rfl
    · rw [whileG_keys n h, lapF_keys]
theorem whileC_G (R : RT) : ∀ (n : Nat) (k : Int) (F : FT'), whileC R n k F = whileG (laterC R) n k F
  | 0, _, _ => rfl
  | n + 1, k, F => by unfold whileC whileG; rw [whileC_G R n]
/-! ### steadied -/
def doneC (F : FT') (e : Option (List Int)) : Bool := match e with
  | none => false
  | some t => match lk F t with
    | some (some _) => true
    | _ => false
structure KOk (K : RT) : Prop where
  len : K.length ≤ 1000
  rows : ∀ x ∈ K, x.2.length ≤ 1000 ∧ ∀ es ∈ x.2, es.length ≤ 1000 ∧ ∀ e ∈ es, ∃ t, e = some t ∧ t ∈ K.map (·.1)
def isLaterS (F : FT') (x : List Int × Rows) : Bool := isNo F x.1 && x.2.any fun es => es.all (doneC F)
def laterS (K : RT) (F : FT') : List (List Int) := (K.filter (isLaterS F)).map (·.1)
theorem laterS_mem {K : RT} {F : FT'} : ∀ s ∈ laterS K F, s ∈ K.map (·.1) ∧ isNo F s = true := fun s h => by
  obtain ⟨x, hx, rfl⟩ := List.mem_map.mp h
  refine ⟨List.mem_map.mpr ⟨x, (List.mem_filter.mp hx).1, rfl⟩, ?_⟩
  have := (List.mem_filter.mp hx).2
  unfold isLaterS at this
  rw [Bool.and_eq_true] at this
  exact this.1
def tE (b m p : Int) (C : FT') (K : RT) (F : FT') (lap : Int) (mv : Bool) (s5 s9 s10 : Sl) : En := [.val (.int b), .val (.int m), .val (.int p), .val (dF lvD C), .val (dF rowsD K), s5, .own false (dF lvD F), .val (.int lap), .val (.bl mv), s9, s10, .un, .un]
abbrev testS1 : FT := ftAnd (fTest (fOp2 gIs (fLd (fOp2 gIx (fLv 6) (fLv 5))) (fLd (fC .non)))) (fTest (fB gAny (flCons (fLd (fComp (fiSeq (fVar 10)) (setE 11) fYes (fB gAll (flCons (fLd (fComp (fiSeq (fVar 11)) (setE 12) fYes (fOp2 gIsNot (fLd (fOp2 gIx (fLv 6) (fLv 12))) (fLd (fC .non))) [12])) flNil)) [11])) flNil)))
theorem testS_ok {b m p : Int} {C : FT'} {K : RT} {F : FT'} {lap : Int} {mv : Bool} {s9 : Sl} {x : List Int × Rows} (ok : KOk K) (hk : F.map (·.1) = K.map (·.1)) (hx : x ∈ K) :
    testS1 (tE b m p C K F lap mv (.val (tupI x.1)) s9 (.val (rowsD x.2))) = some (isLaterS F x, tE b m p C K F lap mv (.val (tupI x.1)) s9 (.val (rowsD x.2))) := by
  obtain ⟨hl, he⟩ := ok.rows x hx
  have mem : ∀ t, t ∈ K.map (·.1) → (lk F t).isSome = true := fun t h => lk_isSome.mpr (hk ▸ h)
  obtain ⟨v, hv⟩ := Option.isSome_iff_exists.mp (mem x.1 (List.mem_map.mpr ⟨x, hx, rfl⟩))
  have i1 : fOp2 gIx (fLv 6) (fLv 5) (tE b m p C K F lap mv (.val (tupI x.1)) s9 (.val (rowsD x.2))) = some (lvD v, tE b m p C K F lap mv (.val (tupI x.1)) s9 (.val (rowsD x.2))) := op2_of rfl rfl rfl rfl (by rw [ix_F, hv]; rfl)
  cases v with
  | some k =>
    have t : fTest (fOp2 gIs (fLd (fOp2 gIx (fLv 6) (fLv 5))) (fLd (fC .non))) (tE b m p C K F lap mv (.val (tupI x.1)) s9 (.val (rowsD x.2))) = some (false, _) := test_op2 (fLd_of i1) rfl rfl rfl rfl
    rw [show isLaterS F x = false by unfold isLaterS isNo; rw [hv]; rfl]
    exact and_ff t
  | none =>
    have t : fTest (fOp2 gIs (fLd (fOp2 gIx (fLv 6) (fLv 5))) (fLd (fC .non))) (tE b m p C K F lap mv (.val (tupI x.1)) s9 (.val (rowsD x.2))) = some (true, _) := test_op2 (fLd_of i1) rfl rfl rfl rfl
    rw [show isLaterS F x = x.2.any fun es => es.all (doneC F) by unfold isLaterS isNo; rw [hv]; rfl]
    refine and_tt t (test_of' ?_)
    have c := fComp_all (ι := endsD) (xs := x.2) (fun es => .bl (es.all (doneC F))) (fun es => (tE b m p C K F lap mv (.val (tupI x.1)) s9 (.val (rowsD x.2))).set 11 (.val (endsD es))) (fi := fiSeq (fVar 10)) (g := setE 11) (f := fB gAll (flCons (fLd (fComp (fiSeq (fVar 11)) (setE 12) fYes (fOp2 gIsNot (fLd (fOp2 gIx (fLv 6) (fLv 12))) (fLd (fC .non))) [12])) flNil)) (vs := [11])
      (env := tE b m p C K F lap mv (.val (tupI x.1)) s9 (.val (rowsD x.2))) (env1 := tE b m p C K F lap mv (.val (tupI x.1)) s9 (.val (rowsD x.2))) rfl (Nat.le_trans hl (by decide)) rfl rfl rfl fun es hes => ⟨rfl, rfl, rfl, by
        have c2 := fComp_all (ι := oD) (xs := es) (fun e => .bl (doneC F e)) (fun e => ((tE b m p C K F lap mv (.val (tupI x.1)) s9 (.val (rowsD x.2))).set 11 (.val (endsD es))).set 12 (.val (oD e))) (fi := fiSeq (fVar 11)) (g := setE 12) (f := fOp2 gIsNot (fLd (fOp2 gIx (fLv 6) (fLv 12))) (fLd (fC .non))) (vs := [12])
          (env := (tE b m p C K F lap mv (.val (tupI x.1)) s9 (.val (rowsD x.2))).set 11 (.val (endsD es))) (env1 := (tE b m p C K F lap mv (.val (tupI x.1)) s9 (.val (rowsD x.2))).set 11 (.val (endsD es))) rfl (Nat.le_trans (he es hes).1 (by decide)) rfl rfl rfl fun e hee => ⟨rfl, rfl, rfl, by
            obtain ⟨t, rfl, ht⟩ := (he es hes).2 e hee
            obtain ⟨w, hw⟩ := Option.isSome_iff_exists.mp (mem t ht)
            have i2 : fOp2 gIx (fLv 6) (fLv 12) (((tE b m p C K F lap mv (.val (tupI x.1)) s9 (.val (rowsD x.2))).set 11 (.val (endsD es))).set 12 (.val (oD (some t)))) = some (lvD w, ((tE b m p C K F lap mv (.val (tupI x.1)) s9 (.val (rowsD x.2))).set 11 (.val (endsD es))).set 12 (.val (oD (some t)))) := op2_of rfl rfl rfl rfl (by
              show gIx (dF lvD F) (tupI t) = _
              rw [ix_F, hw]; rfl)
            refine op2_of (fLd_of i2) rfl rfl rfl ?_
            unfold doneC
            simp only [hw]
            cases w <;> rfl⟩
        refine fB1_of (fLd_of c2) rfl ?_
        rw [show (es.map fun e => D.bl (doneC F e)) = (es.map (doneC F)).map D.bl by rw [List.map_map]; rfl, all_bls, List.all_map]
        rfl⟩
    refine fB1_of (fLd_of c) rfl ?_
    rw [show (x.2.map fun es => D.bl (es.all (doneC F))) = (x.2.map fun es => es.all (doneC F)).map D.bl by rw [List.map_map]; rfl, any_bls, List.any_map]
    rfl
abbrev loop1S : FS := fFrz 4 (fFor (fiItems 4) (fgTup (fgCons (setE 5) (fgCons (setE 10) fgNil)) 2) (fIf testS1 (fDrop (fAppend 9 (faCons (fVar 5) faNil))) fSkip))
abbrev loop2S : FS := fFrz 9 (fFor (fiSeq (fVar 9)) (setE 5) (fAsg (fTup (faCons (fVar 7) (faCons (fC (.bl true)) faNil))) (fgTup (fgCons (fgSub 6 (fLv 5)) (fgCons (setE 8) fgNil)) 2)))
theorem loop1S_ok {b m p : Int} {C : FT'} {K : RT} {F : FT'} {lap : Int} {mv : Bool} {s5 s10 : Sl} (ok : KOk K) (hk : F.map (·.1) = K.map (·.1)) (m5 : s5.mine = true) (m10 : s10.mine = true) :
    ∃ t5 t10, t5.mine = true ∧ t10.mine = true ∧ loop1S (tE b m p C K F lap mv s5 (.own false (.lst [])) s10) = some (.nx (tE b m p C K F lap mv t5 (.own false (.lst ((laterS K F).map tupI))) t10)) := by
  have L := loopD_foldI (α := List Int × Rows) (S := List (List Int)) (ι := fun x => .tup [tupI x.1, rowsD x.2]) (g := fgTup (fgCons (setE 5) (fgCons (setE 10) fgNil)) 2) (f := fIf testS1 (fDrop (fAppend 9 (faCons (fVar 5) faNil))) fSkip)
    (fun L x => if isLaterS F x then L ++ [x.1] else L) (fun i L env => L.length ≤ i ∧ ∃ t5 t10, t5.mine = true ∧ t10.mine = true ∧ env = tE b m p C K F lap mv t5 (.own false (.lst (L.map tupI))) t10) (xs := K) (k := 0) (s := []) (env := tE b m p C K F lap mv s5 (.own false (.lst [])) s10) (fun i x hx L env he => ?_) ⟨Nat.le_refl _, s5, s10, m5, m10, rfl⟩
  · obtain ⟨env', h1, _, t8, t9, n8, n9, rfl⟩ := L
    refine ⟨t8, t9, n8, n9, ?_⟩
    rw [foldl_filter, List.nil_append] at h1
    exact forD_of (items_F rowsD 4 rfl) h1
  · obtain ⟨hl, t8, t9, n8, n9, rfl⟩ := he
    have hx' : x ∈ K := List.mem_of_getElem? hx
    have hi := (List.getElem?_eq_some_iff.mp hx).1
    refine ⟨tE b m p C K F lap mv (.val (tupI x.1)) (.own false (.lst (L.map tupI))) (.val (rowsD x.2)), ?_, ?_⟩
    · show (fgCons (setE 5) (fgCons (setE 10) fgNil)) [tupI x.1, rowsD x.2] _ = _
      unfold fgCons
      simp only [setE_mine (i := 5) (env := tE b m p C K F lap mv t8 (.own false (.lst (L.map tupI))) t9) rfl n8]
      simp only [setE_mine (i := 10) (env := (tE b m p C K F lap mv t8 (.own false (.lst (L.map tupI))) t9).set 5 (.val (tupI x.1))) rfl n9]
      rfl
    · cases q : isLaterS F x with
      | false =>
        refine ⟨_, .inl (if_ff (by rw [testS_ok ok hk hx', q]) rfl), ?_⟩
        rw [if_neg Bool.false_ne_true]
        exact ⟨by omega, _, _, rfl, rfl, rfl⟩
      | true =>
        refine ⟨tE b m p C K F lap mv (.val (tupI x.1)) (.own false (.lst ((L ++ [x.1]).map tupI))) (.val (rowsD x.2)), .inl (if_tt (by rw [testS_ok ok hk hx', q]) ?_), ?_⟩
        · have happ : fAppend 9 (faCons (fVar 5) faNil) (tE b m p C K F lap mv (.val (tupI x.1)) (.own false (.lst (L.map tupI))) (.val (rowsD x.2))) = some (.non, tE b m p C K F lap mv (.val (tupI x.1)) (.own false (.lst ((L ++ [x.1]).map tupI))) (.val (rowsD x.2))) := by
            have e1 : lstAt 9 (tE b m p C K F lap mv (.val (tupI x.1)) (.own false (.lst (L.map tupI))) (.val (rowsD x.2))) = some (false, L.map tupI) := rfl
            have e2 : faCons (fVar 5) faNil (tE b m p C K F lap mv (.val (tupI x.1)) (.own false (.lst (L.map tupI))) (.val (rowsD x.2))) = some ([tupI x.1], tE b m p C K F lap mv (.val (tupI x.1)) (.own false (.lst (L.map tupI))) (.val (rowsD x.2))) := rfl
            unfold fAppend
            simp only [e1, e2]
            rw [if_pos (by rw [List.length_map]; have := ok.len; exact Nat.lt_of_lt_of_le (by omega) (show 1001 ≤ mx by decide)), List.map_append]
            rfl
          unfold fDrop
          rw [happ]
          rfl
        · rw [if_pos rfl]
          exact ⟨by rw [List.length_append]; simp; omega, _, _, rfl, rfl, rfl⟩
theorem loop2S_ok {b m p : Int} {C : FT'} {K : RT} {F : FT'} {lap : Int} {mv : Bool} {L : List (List Int)} {s5 s10 : Sl} (ok : KOk K) (hk : F.map (·.1) = K.map (·.1)) (hL : ∀ s ∈ L, s ∈ K.map (·.1)) (m5 : s5.mine = true) :
    ∃ t5, t5.mine = true ∧ loop2S (tE b m p C K F lap mv s5 (.own false (.lst (L.map tupI))) s10) = some (.nx (tE b m p C K (lapF lap L F) lap (if L = [] then mv else true) t5 (.val (.lst (L.map tupI))) s10)) := by
  have key := loopD_fold (α := List Int) (S := FT' × Bool) (ι := tupI) (g := setE 5) (f := fAsg (fTup (faCons (fVar 7) (faCons (fC (.bl true)) faNil))) (fgTup (fgCons (fgSub 6 (fLv 5)) (fgCons (setE 8) fgNil)) 2))
    (fun a s => (putF a.1 s (some lap), true)) (fun a env => a.1.map (·.1) = K.map (·.1) ∧ ∃ t5, t5.mine = true ∧ env = tE b m p C K a.1 lap a.2 t5 (.val (.lst (L.map tupI))) s10) (xs := L) (s := (F, mv)) (env := tE b m p C K F lap mv s5 (.val (.lst (L.map tupI))) s10) (fun s hs a env he => ?_) ⟨hk, s5, m5, rfl⟩
  · obtain ⟨env', h1, _, t8, n8, rfl⟩ := key
    refine ⟨t8, n8, ?_⟩
    have fold : ∀ (L : List (List Int)) (F : FT') (mv : Bool), L.foldl (fun (a : FT' × Bool) s => (putF a.1 s (some lap), true)) (F, mv) = (lapF lap L F, if L = [] then mv else true) := by
      intro L
      induction L with
      | nil => intro F mv; rfl
      | cons s L ih =>
        intro F mv
        rw [List.foldl_cons, ih]
        show (lapF lap L (putF F s (some lap)), _) = (lapF lap L (putF F s (some lap)), _)
        congr 1
        rw [if_neg (List.cons_ne_nil _ _)]
        split <;> rfl
    rw [fold] at h1
    show fFor (fiSeq (fVar 9)) (setE 5) _ (tE b m p C K F lap mv s5 (.val (.lst (L.map tupI))) s10) = _
    exact forD_of rfl h1
  · obtain ⟨hk', t8, n8, rfl⟩ := he
    refine ⟨tE b m p C K a.1 lap a.2 (.val (tupI s)) (.val (.lst (L.map tupI))) s10, setE_mine rfl n8, tE b m p C K (putF a.1 s (some lap)) lap true (.val (tupI s)) (.val (.lst (L.map tupI))) s10, .inl ?_, by rw [putF_keys]; exact hk', _, rfl, rfl⟩
    have hput : putD (dF lvD a.1) (tupI s) (lvD (some lap)) = some (dF lvD (putF a.1 s (some lap))) := putD_F lvD (some lap) (lk_isSome.mpr (hk' ▸ hL s hs)) (by
      have : a.1.length = K.length := by rw [← List.length_map (f := (·.1)) (as := a.1), hk', List.length_map]
      rw [this]
      exact Nat.lt_of_le_of_lt ok.len (by decide))
    have hsub : fgSub 6 (fLv 5) (.int lap) (tE b m p C K a.1 lap a.2 (.val (tupI s)) (.val (.lst (L.map tupI))) s10) = some (tE b m p C K (putF a.1 s (some lap)) lap a.2 (.val (tupI s)) (.val (.lst (L.map tupI))) s10) := by
      show (putD (dF lvD a.1) (tupI s) (lvD (some lap))).map _ = _
      rw [hput]
      rfl
    show ((fgCons (fgSub 6 (fLv 5)) (fgCons (setE 8) fgNil)) [.int lap, .bl true] (tE b m p C K a.1 lap a.2 (.val (tupI s)) (.val (.lst (L.map tupI))) s10)).map Out.nx = _
    unfold fgCons
    simp only [hsub]
    rfl
abbrev bodyWS : FS := fSeq (fPar [7, 8, 9] (fmVal (fOp2 DL.gAdd (fLv 7) (fLd (fC (.int 1)))) (fmVal (fC (.bl false)) (fmOwn (fLst faNil) fmNil)))) (fSeq loop1S loop2S)
theorem bodyS2_ok {b m p : Int} {C : FT'} {K : RT} {F : FT'} {lap : Int} {s5 s9 s10 : Sl} (ok : KOk K) (hk : F.map (·.1) = K.map (·.1)) (m5 : s5.mine = true) (m9 : s9.mine = true) (m10 : s10.mine = true) :
    ∃ t5 t9 t10, t5.mine = true ∧ t9.mine = true ∧ t10.mine = true ∧ bodyWS (tE b m p C K F lap true s5 s9 s10) = some (.nx (tE b m p C K (lapF (lap + 1) (laterS K F) F) (lap + 1) (if laterS K F = [] then false else true) t5 t9 t10)) := by
  have p1 : fPar [7, 8, 9] (fmVal (fOp2 DL.gAdd (fLv 7) (fLd (fC (.int 1)))) (fmVal (fC (.bl false)) (fmOwn (fLst faNil) fmNil))) (tE b m p C K F lap true s5 s9 s10) = some (.nx (tE b m p C K F (lap + 1) false s5 (.own false (.lst [])) s10)) := by
    cases s9 with
    | un => rfl
    | val d => rfl
    | own io d => cases io with
      | true => cases m9
      | false => rfl
  obtain ⟨t8, t9, n8, n9, l1⟩ := loop1S_ok (b := b) (m := m) (p := p) (C := C) (lap := lap + 1) (mv := false) ok hk m5 m10
  obtain ⟨u8, v8, l2⟩ := loop2S_ok (b := b) (m := m) (p := p) (C := C) (lap := lap + 1) (mv := false) (s10 := t9) ok hk (fun s h => (laterS_mem (F := F) s h).1) n8
  exact ⟨u8, _, t9, v8, rfl, n9, seq_nx p1 (seq_nx l1 l2)⟩
theorem whileS_ok {b m p : Int} {C : FT'} {K : RT} (ok : KOk K) : ∀ (n : Nat) {lap : Int} {F F' : FT'} {s5 s9 s10 : Sl}, F.map (·.1) = K.map (·.1) → s5.mine = true → s9.mine = true → s10.mine = true → whileG (laterS K) n lap F = some F' →
    ∃ lap' mv' t5 t9 t10, t5.mine = true ∧ fWhile (n + 1) (fTest (fVar 8)) bodyWS (tE b m p C K F lap true s5 s9 s10) = some (.nx (tE b m p C K F' lap' mv' t5 t9 t10))
  | 0, _, _, _, _, _, _, _, _, _, _, h => by cases h
  | n + 1, lap, F, F', s7, s8, s9, hk, m7, m8, m9, h => by
    obtain ⟨t7, t8, t9, n7, n8, n9, hb⟩ := bodyS2_ok (b := b) (m := m) (p := p) (C := C) (lap := lap) ok hk m7 m8 m9
    unfold whileG at h
    by_cases hL : laterS K F = []
    · rw [if_pos hL] at h
      cases h
      rw [if_pos hL, hL] at hb
      exact ⟨lap + 1, false, t7, t8, t9, n7, while_go rfl hb (while_end rfl)⟩
    · rw [if_neg hL] at h
      rw [if_neg hL] at hb
      obtain ⟨l', mv', u7, u8, u9, w7, hw⟩ := whileS_ok ok n (by rw [lapF_keys]; exact hk) n7 n8 n9 h
      exact ⟨l', mv', u7, u8, u9, w7, while_go rfl hb hw⟩
end Law
namespace DL
open PySem L2
theorem asg_of {fe : FE} {g : FG} {env e e2 : En} {d : D} (h : fe env = some (d, e)) (h2 : g d e = some e2) : fAsg fe g env = some (.nx e2) := by
  unfold fAsg
  rw [h]
  simp only [h2, Option.map_some]
theorem take_not {α : Type} {xs : List α} {x : α} {i : Nat} (nd : xs.Nodup) (h : xs[i]? = some x) : x ∉ xs.take i := fun z => by
  obtain ⟨hi, hx⟩ := List.getElem?_eq_some_iff.mp h
  have e : xs = xs.take i ++ x :: xs.drop (i + 1) := by
    rw [← hx, ← List.drop_eq_getElem_cons hi, List.take_append_drop]
  rw [e, List.nodup_append] at nd
  exact nd.2.2 x z x List.mem_cons_self rfl
theorem take_next {α : Type} {xs : List α} {x : α} {i : Nat} (h : xs[i]? = some x) : xs.take (i + 1) = xs.take i ++ [x] := by
  rw [List.take_succ, h]
  rfl
end DL
namespace Law
open PySem L2 DL
/-- the rows that are safe -/
def krO (s : List Int) (m p : Int) (C : FT') : Rows := (rowsO s m p).filter fun es => !canC C es
def knS (b m p : Int) (C : FT') : RT := (safeS b m C).map fun s => (s, krO s m p C)
theorem knS_keys {b m p : Int} {C : FT'} : (knS b m p C).map (·.1) = safeS b m C := by
  unfold knS
  rw [List.map_map]
  exact List.map_id _
theorem safeS_sub {b m : Int} {C : FT'} : (safeS b m C).Sublist (stS b m) := List.filter_sublist
theorem knS_ok {b m p : Int} {C : FT'} (z : Sz b m) (hC : C.map (·.1) = stS b m) : KOk (knS b m p C) := by
  refine ⟨?_, fun x hx => ?_⟩
  · unfold knS
    rw [List.length_map]
    have := safeS_sub (b := b) (m := m) (C := C) |>.length_le
    have := z.len
    omega
  · obtain ⟨s, hs, rfl⟩ := List.mem_map.mp hx
    have hs' := safeS_sub.subset hs
    refine ⟨?_, fun es he => ?_⟩
    · refine Nat.le_trans (List.length_filter_le _ _) ?_
      unfold rowsO
      rw [List.length_map]
      have := throwsO_len (s := s) ⟨z.m0, z.m15⟩
      omega
    · obtain ⟨he1, he2⟩ := List.mem_filter.mp he
      obtain ⟨h, hh, rfl⟩ := List.mem_map.mp he1
      have := endsO_len (s := s) (h := h) (p := p) ⟨z.m0, z.m15⟩
      refine ⟨by omega, fun e hee => ?_⟩
      have ne : ∀ e ∈ endsO s h m p, (match e with
        | none => true
        | some s => match lk C s with
          | some (some _) => true
          | _ => false) = false := by
        have q : canC C (endsO s h m p) = false := by simpa using he2
        unfold canC at q
        rw [List.any_eq_false] at q
        exact fun e he => Bool.eq_false_iff.mpr (q e he)
      cases e with
      | none => exact absurd (show true = false from ne none hee) (by decide)
      | some t =>
        obtain ⟨o, o0, om, eo⟩ := endsO_mem (throwsO_mem z.m0 hh) hee
        have ht := z.cl s hs' o o0 om t eo
        refine ⟨t, rfl, ?_⟩
        rw [knS_keys]
        refine List.mem_filter.mpr ⟨ht, ?_⟩
        have lt := lk_lvO (F := C) (s := t) (hC ▸ ht)
        have := ne (some t) hee
        simp only [lt] at this
        cases q : lvO C t with
        | none => rfl
        | some k => rw [q] at this; cases this
/-- where the count begins -/
def stF1 (b : Int) (K : RT) : FT' := if (lk (F0 K) (rngI 0 b)).isSome then putF (F0 K) (rngI 0 b) (some 0) else F0 K
theorem stF1_keys {b : Int} {K : RT} : (stF1 b K).map (·.1) = K.map (·.1) := by
  unfold stF1
  split
  · rw [putF_keys, F0_keys]
  · rw [F0_keys]
def stdF (b m p : Int) (C : FT') : Option FT' := whileG (laterS (knS b m p C)) 199 0 (stF1 b (knS b m p C))
theorem stdF_some {b m : Int} (p : Int) {C : FT'} (z : Sz b m) : ∃ G, stdF b m p C = some G := by
  refine whileG_some (Ks := (knS b m p C).map (·.1)) (fun F s h => laterS_mem s h) 199 0 _ ?_
  refine Nat.lt_of_le_of_lt (List.length_filter_le _ _) ?_
  rw [knS_keys]
  have := safeS_sub (b := b) (m := m) (C := C) |>.length_le
  have := z.len
  omega
theorem stdF_keys {b m p : Int} {C G : FT'} (h : stdF b m p C = some G) : G.map (·.1) = safeS b m C := by
  rw [whileG_keys _ h, stF1_keys, knS_keys]
def tA (b m p : Int) (C : FT') (K : RT) (s5 : Sl) : En := [.val (.int b), .val (.int m), .val (.int p), .val (dF lvD C), .own false (dF rowsD K), s5, .un, .un, .un, .un, .un, .un, .un]
theorem rg_all : ∀ x ∈ sizes, rgOk 0 x.1 = true := by decide
theorem tupRg_ok {b m : Int} (h : (b, m) ∈ sizes) {env : En} (h0 : env[0]? = some (.val (.int b))) : fTupRg (fRg1 (fVar 0)) env = some (tupI (rngI 0 b), env) := by
  have v : fVar 0 env = some (.int b, env) := by unfold fVar; rw [h0]
  unfold fTupRg fRg1
  simp only [v]
  rw [if_pos (rg_all _ h), rngD_is]
  rfl
theorem sp_steadied {b m p : Int} {C G : FT'} (h : (b, m) ∈ sizes) (hp : 0 ≤ p ∧ p ≤ 5) (hC : lvls b m p = some C) (hG : stdF b m p C = some G) :
    Gives (runD [false, false, false] 10 (f_steadied S_can_clash S_check_lot S_clashes_of S_options)) [.int b, .int m, .int p] false (.tup ((safeS b m C).map fun s => rowD (s, lvO G s))) := by
  have z := sz_of h
  have kC := lvls_keys hC
  have ok := knS_ok (p := p) z kC
  have kK := knS_keys (b := b) (m := m) (p := p) (C := C)
  have sl := safeS_sub (b := b) (m := m) (C := C)
  have slen : (safeS b m C).length ≤ 60 := Nat.le_trans sl.length_le z.len
  have a0 : fDrop (fCall [false, false, false] S_check_lot (flCons (fLv 0) (flCons (fLv 1) (flCons (fLv 2) flNil)))) [.val (.int b), .val (.int m), .val (.int p), .un, .un, .un, .un, .un, .un, .un, .un, .un, .un] = some (.nx [.val (.int b), .val (.int m), .val (.int p), .un, .un, .un, .un, .un, .un, .un, .un, .un, .un]) := drop_call (by decide) rfl rfl (g_check_lot h hp)
  have a1 : fSet 3 (fCall [false, false, false] S_clashes_of (flCons (fLv 0) (flCons (fLv 1) (flCons (fLv 2) flNil)))) [.val (.int b), .val (.int m), .val (.int p), .un, .un, .un, .un, .un, .un, .un, .un, .un, .un] = some (.nx [.val (.int b), .val (.int m), .val (.int p), .val (dF lvD C), .un, .un, .un, .un, .un, .un, .un, .un, .un]) :=
    set_of (fCall_gives (by decide) rfl rfl (g_clashes_of h (by omega) hC)) rfl
  have a2 : fSetO 4 (fC (.dT [])) [.val (.int b), .val (.int m), .val (.int p), .val (dF lvD C), .un, .un, .un, .un, .un, .un, .un, .un, .un] = some (.nx (tA b m p C [] .un)) := rfl
  have c3 := fComp_on (ι := tupI) (xs := stS b m) (fun s => (lvO C s).isNone) tupI (fun s => tA b m p C [] (.val (tupI s))) (fi := fiKeysV 3) (g := setE 5) (t := fTest (fOp2 gIs (fLd (fOp2 gIx (fLv 3) (fLv 5))) (fLd (fC .non)))) (f := fVar 5) (vs := [5]) (env := tA b m p C [] .un) (env1 := tA b m p C [] .un) (by
      rw [keys_F lvD 3 (env := tA b m p C [] .un) (F := C) rfl, ← kC, List.map_map]
      rfl) (Nat.le_trans z.len (by decide)) rfl rfl rfl fun s hs => ⟨rfl, by
        have i1 : fOp2 gIx (fLv 3) (fLv 5) (tA b m p C [] (.val (tupI s))) = some (lvD (lvO C s), tA b m p C [] (.val (tupI s))) := op2_of rfl rfl rfl rfl (by rw [ix_F, lk_lvO (by rw [kC]; exact hs)]; rfl)
        refine test_op2 (fLd_of i1) rfl rfl rfl ?_
        cases lvO C s <;> rfl, rfl, rfl, fun _ => rfl⟩
  have L := loopD_foldI (α := List Int) (S := RT) (ι := tupI) (g := setE 5) (f := fAsg (fComp (fiSeq (fCall [false, false, false] S_options (flCons (fLv 5) (flCons (fLv 1) (flCons (fLv 2) flNil))))) (setE 11) (ftNot (fTest (fCall [false, false] S_can_clash (flCons (fLv 3) (flCons (fLv 11) flNil))))) (fVar 11) [11]) (fgSub 4 (fLv 5)))
    (fun S s => S ++ [(s, krO s m p C)]) (fun k S env => S = ((safeS b m C).take k).map (fun s => (s, krO s m p C)) ∧ ∃ s5, s5.mine = true ∧ env = tA b m p C S s5) (xs := safeS b m C) (k := 0) (s := []) (env := tA b m p C [] .un) (fun i s hs S env he => by
      obtain ⟨hS, s5, m5, rfl⟩ := he
      rw [Nat.zero_add] at hS ⊢
      have hs1 := sl.subset (List.mem_of_getElem? hs)
      refine ⟨tA b m p C S (.val (tupI s)), setE_mine rfl m5, tA b m p C (S ++ [(s, krO s m p C)]) (.val (tupI s)), .inl ?_, ?_, _, rfl, rfl⟩
      · have c := fComp_on (ι := endsD) (xs := rowsO s m p) (fun es => !canC C es) endsD (fun es => (tA b m p C S (.val (tupI s))).set 11 (.val (endsD es))) (fi := fiSeq (fCall [false, false, false] S_options (flCons (fLv 5) (flCons (fLv 1) (flCons (fLv 2) flNil))))) (g := setE 11) (t := ftNot (fTest (fCall [false, false] S_can_clash (flCons (fLv 3) (flCons (fLv 11) flNil))))) (f := fVar 11) (vs := [11]) (env := tA b m p C S (.val (tupI s))) (env1 := tA b m p C S (.val (tupI s))) (by
            unfold fiSeq
            rw [fCall_gives (by decide) rfl rfl (g_options s m p (Nat.le_trans (z.sl s hs1) (by decide)) ⟨z.m0, Int.le_trans z.m15 (by decide)⟩ ⟨hp.1, Int.le_trans hp.2 (by decide)⟩)]
            rfl) (by
            unfold rowsO
            rw [List.length_map]
            exact Nat.le_trans (throwsO_len ⟨z.m0, z.m15⟩) (by decide)) rfl rfl rfl fun es he => ⟨rfl, by
              obtain ⟨hh, hhm, rfl⟩ := List.mem_map.mp he
              have g := cc_gives C (endsO s hh m p) (Nat.le_trans (endsO_len ⟨z.m0, z.m15⟩) (by decide)) fun t ht => lk_isSome.mpr (by
                rw [kC]
                obtain ⟨o, o0, om, e⟩ := endsO_mem (throwsO_mem z.m0 hhm) ht
                exact z.cl s hs1 o o0 om t e)
              unfold ftNot
              rw [test_of' (fCall_gives (by decide) rfl rfl g)]
              rfl, rfl, rfl, fun _ => rfl⟩
        refine asg_of c ?_
        have nk : s ∉ S.map (·.1) := by
          rw [hS, List.map_map, show ((fun x : List Int × Rows => x.1) ∘ fun s => (s, krO s m p C)) = id from rfl, List.map_id]
          exact take_not (z.nd.sublist sl) hs
        have ln : S.length < mx := by
          rw [hS, List.length_map, List.length_take]
          have : (60 : Nat) < mx := by decide
          omega
        have hput : putD (dF rowsD S) (tupI s) (rowsD (krO s m p C)) = some (dF rowsD (S ++ [(s, krO s m p C)])) := putD_new rowsD _ nk ln
        show (putD (dF rowsD S) (tupI s) (rowsD (krO s m p C))).map _ = _
        rw [hput]
        rfl
      · rw [DL.take_next hs, List.map_append, ← hS]
        rfl) ⟨rfl, .un, rfl, rfl⟩
  obtain ⟨e3, hl3, hS3, s5, m5, rfl⟩ := L
  rw [Nat.zero_add, List.take_length] at hS3
  rw [hS3] at hl3
  have a3 := forD_of (fi := fiSeq (fComp (fiKeysV 3) (setE 5) (fTest (fOp2 gIs (fLd (fOp2 gIx (fLv 3) (fLv 5))) (fLd (fC .non)))) (fVar 5) [5])) (env := tA b m p C [] .un) (by unfold fiSeq; rw [c3]; rfl) hl3
  have a4 : ∃ t5, t5.mine = true ∧ fFrz 4 (fPar [6, 7, 8] (fmOwn (fCompQ true (fiKeysV 4) (setE 5) fYes (fVar 5) (fC .non) [5]) (fmVal (fC (.int 0)) (fmVal (fC (.bl true)) fmNil)))) (tA b m p C (knS b m p C) s5) = some (.nx (tE b m p C (knS b m p C) (F0 (knS b m p C)) 0 true t5 .un .un)) := by
    have c : ∀ t5, t5.mine = true → restE (tA b m p C (knS b m p C) s5 |>.set 4 (.val (dF rowsD (knS b m p C)))) (wipeE (tA b m p C (knS b m p C) s5 |>.set 4 (.val (dF rowsD (knS b m p C)))) [5]) [5] = (tA b m p C (knS b m p C) t5 |>.set 4 (.val (dF rowsD (knS b m p C)))) → fCompQ true (fiKeysV 4) (setE 5) fYes (fVar 5) (fC .non) [5] (tA b m p C (knS b m p C) s5 |>.set 4 (.val (dF rowsD (knS b m p C)))) = some (dF lvD (F0 (knS b m p C)), tA b m p C (knS b m p C) t5 |>.set 4 (.val (dF rowsD (knS b m p C)))) := fun t5 _ hr =>
      fCompQ_new (ι := fun x : List Int × Rows => tupI x.1) (xs := knS b m p C) (fun x => x.1) lvD (fun _ => none) (fun x => (tA b m p C (knS b m p C) (.val (tupI x.1)) |>.set 4 (.val (dF rowsD (knS b m p C))))) (keys_F rowsD 4 rfl) (Nat.le_trans ok.len (by decide)) (by rw [kK]; exact z.nd.sublist sl) (by
        show (s5.mine && true) = true
        rw [m5]; rfl) rfl hr fun x _ => ⟨rfl, rfl, rfl, rfl, rfl⟩
    cases s5 with
    | un =>
      refine ⟨.un, rfl, ?_⟩
      show fPar _ _ (tA b m p C (knS b m p C) .un |>.set 4 (.val (dF rowsD (knS b m p C)))) = _
      unfold fPar fmOwn
      simp only [c .un rfl rfl]
      rfl
    | val d =>
      refine ⟨.val d, rfl, ?_⟩
      show fPar _ _ (tA b m p C (knS b m p C) (.val d) |>.set 4 (.val (dF rowsD (knS b m p C)))) = _
      unfold fPar fmOwn
      simp only [c (.val d) rfl rfl]
      rfl
    | own io d =>
      refine ⟨.un, rfl, ?_⟩
      show fPar _ _ (tA b m p C (knS b m p C) (.own io d) |>.set 4 (.val (dF rowsD (knS b m p C)))) = _
      unfold fPar fmOwn
      simp only [c .un rfl rfl]
      rfl
  obtain ⟨t5, n5, a4⟩ := a4
  have a5 : fIf (fTest (fOp2 gIn (fLd (fTupRg (fRg1 (fVar 0)))) (fLv 6))) (fAsg (fC (.int 0)) (fgSub 6 (fLd (fTupRg (fRg1 (fVar 0)))))) fSkip (tE b m p C (knS b m p C) (F0 (knS b m p C)) 0 true t5 .un .un) = some (.nx (tE b m p C (knS b m p C) (stF1 b (knS b m p C)) 0 true t5 .un .un)) := by
    have r := tupRg_ok h (env := tE b m p C (knS b m p C) (F0 (knS b m p C)) 0 true t5 .un .un) rfl
    have t : fTest (fOp2 gIn (fLd (fTupRg (fRg1 (fVar 0)))) (fLv 6)) (tE b m p C (knS b m p C) (F0 (knS b m p C)) 0 true t5 .un .un) = some ((lk (F0 (knS b m p C)) (rngI 0 b)).isSome, tE b m p C (knS b m p C) (F0 (knS b m p C)) 0 true t5 .un .un) := test_op2 (fLd_of r) rfl rfl rfl (by
      unfold gIn
      rw [inB_F]
      rfl)
    unfold stF1
    cases q : (lk (F0 (knS b m p C)) (rngI 0 b)).isSome with
    | false =>
      rw [q] at t
      exact if_ff t rfl
    | true =>
      rw [q] at t
      refine if_tt t (asg_of rfl ?_)
      have hput : putD (dF lvD (F0 (knS b m p C))) (tupI (rngI 0 b)) (lvD (some 0)) = some (dF lvD (putF (F0 (knS b m p C)) (rngI 0 b) (some 0))) := putD_F lvD (some 0) q (by
        unfold F0
        rw [List.length_map]
        exact Nat.lt_of_le_of_lt ok.len (by decide))
      show (match fLd (fTupRg (fRg1 (fVar 0))) (tE b m p C (knS b m p C) (F0 (knS b m p C)) 0 true t5 .un .un) with
        | none => none
        | some (l, e1) => match res e1 l with
          | none => none
          | some k => putOwn 6 k (.int 0) e1) = _
      rw [fLd_of r]
      show (putD (dF lvD (F0 (knS b m p C))) (tupI (rngI 0 b)) (lvD (some 0))).map _ = _
      rw [hput]
      rfl
  obtain ⟨l', mv', u5, u9, u10, w5, hw⟩ := whileS_ok (b := b) (m := m) (p := p) (C := C) ok 199 (lap := 0) (F := stF1 b (knS b m p C)) stF1_keys n5 (s9 := .un) (s10 := .un) rfl rfl hG
  have kG := stdF_keys hG
  have c6 : ∃ e6, fComp (fiSeq (fB gSortD (flCons (fLv 6) flNil))) (setE 5) fYes (fTup (faCons (fVar 5) (faCons (fOp2 gIx (fLv 6) (fLv 5)) faNil))) [5] (tE b m p C (knS b m p C) G l' mv' u5 u9 u10) = some (.lst ((safeS b m C).map fun s => rowD (s, lvO G s)), e6) :=
    ⟨_, fComp_all (ι := tupI) (xs := safeS b m C) (fun s => rowD (s, lvO G s)) (fun s => tE b m p C (knS b m p C) G l' mv' (.val (tupI s)) u9 u10) (env1 := tE b m p C (knS b m p C) G l' mv' u5 u9 u10) (by
      unfold fiSeq
      rw [fB1_of rfl rfl (sortD_sub lvD h (by rw [kG]; exact sl)), kG]
      rfl) (Nat.le_trans slen (by decide)) (by
        show (u5.mine && true) = true
        rw [w5]; rfl) rfl rfl fun s hs => ⟨rfl, rfl, rfl, by
        have i1 : fOp2 gIx (fLv 6) (fLv 5) (tE b m p C (knS b m p C) G l' mv' (.val (tupI s)) u9 u10) = some (lvD (lvO G s), tE b m p C (knS b m p C) G l' mv' (.val (tupI s)) u9 u10) := op2_of rfl rfl rfl rfl (by rw [ix_F, lk_lvO (by rw [kG]; exact hs)]; rfl)
        have v5 : fVar 5 (tE b m p C (knS b m p C) G l' mv' (.val (tupI s)) u9 u10) = some (tupI s, tE b m p C (knS b m p C) G l' mv' (.val (tupI s)) u9 u10) := rfl
        unfold fTup faCons faNil
        simp only [v5, faCons, i1]
        rfl⟩⟩
  obtain ⟨e6, c6⟩ := c6
  refine gives_run (e := e6) rfl ?_
  show f_steadied S_can_clash S_check_lot S_clashes_of S_options [.val (.int b), .val (.int m), .val (.int p), .un, .un, .un, .un, .un, .un, .un, .un, .un, .un] = _
  unfold f_steadied
  exact seq_nx a0 (seq_nx a1 (seq_nx a2 (seq_nx a3 (seq_nx a4 (seq_nx a5 (seq_nx hw (ret_of (fB1_of (fLd_of c6) rfl rfl))))))))
def S_steadied : Fn := Sf false fun ds => match ds with
  | [.int b, .int m, .int p] => if (b, m) ∈ sizes ∧ 0 ≤ p ∧ p ≤ 5 then (lvls b m p).bind fun C => (stdF b m p C).map fun G => .tup ((safeS b m C).map fun s => rowD (s, lvO G s)) else none
  | _ => none
theorem to_steadied : ∀ ds fr r o, S_steadied ds = some (fr, r, o) → Gives (runD [false, false, false] 10 (f_steadied S_can_clash S_check_lot S_clashes_of S_options)) ds fr r := by
  refine sf_to fun ds r e => ?_
  split at e
  · rename_i b m p
    split at e
    · rename_i hc
      cases q : lvls b m p with
      | none => rw [q] at e; cases e
      | some C =>
        rw [q] at e
        simp only [Option.bind_some] at e
        cases q2 : stdF b m p C with
        | none => rw [q2] at e; cases e
        | some G =>
          rw [q2] at e
          cases e
          exact sp_steadied hc.1 hc.2 q q2
    · cases e
  · cases e
theorem g_steadied {b m p : Int} {C G : FT'} (h : (b, m) ∈ sizes) (hp : 0 ≤ p ∧ p ≤ 5) (hC : lvls b m p = some C) (hG : stdF b m p C = some G) : Gives S_steadied [.int b, .int m, .int p] false (.tup ((safeS b m C).map fun s => rowD (s, lvO G s))) :=
  sf_gives (by simp only [if_pos (show (b, m) ∈ sizes ∧ 0 ≤ p ∧ p ≤ 5 from ⟨h, hp⟩), hC, Option.bind_some, hG, Option.map_some])
end Law
namespace DL
open PySem L2
theorem seq_rt {f g : FS} {env e : En} {fr : Bool} {d : D} (h : f env = some (.rt fr d e)) : fSeq f g env = some (.rt fr d e) := by
  unfold fSeq
  rw [h]
end DL
namespace Law
open PySem L2 DL
/-! ### the pot -/
def potD (a c n : Int) : D := .lst [.int a, .int c, .int n]
structure PotOk (N a c n : Int) : Prop where
  a0 : 0 ≤ a
  c0 : 0 ≤ c
  c1 : c < 2305843009213693952
  n0 : 0 ≤ n
  n1 : n ≤ N
theorem PotOk.le {N M a c n : Int} (h : PotOk N a c n) (hm : N ≤ M) : PotOk M a c n := ⟨h.a0, h.c0, h.c1, h.n0, Int.le_trans h.n1 hm⟩
def pE (a c n u : Int) (s2 s3 s4 : Sl) : En := [.own true (potD a c n), .val (.int u), s2, s3, s4]
theorem fmod_bd {a b : Int} (h : 0 < b) : 0 ≤ a.fmod b ∧ a.fmod b < b := ⟨Int.fmod_nonneg_of_pos a h, Int.fmod_lt_of_pos a h⟩
theorem mod_of {i j : Int} (h : 0 < j) : gMod (.int i) (.int j) = some (.int (i.fmod j)) := by
  show (if j ≠ 0 then _ else none) = _
  rw [if_pos (by omega)]
theorem fdiv_of {i j : Int} (h : 0 < j ∧ j < 1073741824) : gFdiv (.int i) (.int j) = some (.int (i.fdiv j)) := by
  show (if j ≠ 0 ∧ j.natAbs < 1073741824 then _ else none) = _
  rw [if_pos (by omega)]
theorem small_of {i : Int} (h : -(2 ^ 64) < i ∧ i < 2 ^ 64) : DL.small64 i = true := by
  unfold DL.small64
  simp only [Bool.and_eq_true, decide_eq_true_eq]
  exact h
theorem mul_of {i j : Int} (h : -(2 ^ 64) < i ∧ i < 2 ^ 64) : gMul (.int i) (.int j) = some (.int (i * j)) := by
  show (if DL.small64 i || DL.small64 j then _ else none) = _
  rw [small_of h]
  rfl
theorem mul_of' {i j : Int} (h : -(2 ^ 64) < j ∧ j < 2 ^ 64) : gMul (.int i) (.int j) = some (.int (i * j)) := by
  show (if DL.small64 i || DL.small64 j then _ else none) = _
  rw [small_of h, Bool.or_true]
  rfl
theorem int_of (i : Int) : gInt [.int i] = some (.int i) := rfl
theorem prime_of {i : Int} (h : 0 ≤ i ∧ i < 5) : ∃ q : Int, 0 < q ∧ q < 2147483648 ∧ gIx (.lst [.int 2147483647, .int 2147483629, .int 2147483587, .int 2147483579, .int 2147483563]) (.int i) = some (.int q) := by
  have : i = 0 ∨ i = 1 ∨ i = 2 ∨ i = 3 ∨ i = 4 := by omega
  rcases this with rfl | rfl | rfl | rfl | rfl <;> exact ⟨_, by decide, by decide, rfl⟩
theorem take_ok {N a c n u : Int} (h : PotOk N a c n) (hN : N ≤ 1000) (hu : 1 ≤ u ∧ u < 1073741824) :
    ∃ d a' n' outs, N__law_take [potD a c n, .int u] = some (false, .int d, potD a' c n' :: outs) ∧ PotOk (N + 1) a' c n' ∧ 0 ≤ d ∧ d < u := by
  have run : ∀ d a' n' s2 s3 s4, f__law_take (pE a c n u .un .un .un) = some (.rt false (.int d) (pE a' c n' u s2 s3 s4)) → N__law_take [potD a c n, .int u] = some (false, .int d, potD a' c n' :: [dOf (.val (.int u)), dOf s2, dOf s3, dOf s4]) := fun d a' n' s2 s3 s4 e => by
    unfold N__law_take runD
    show (match f__law_take (pE a c n u .un .un .un) with
      | some (.rt fr d e) => some (fr, d, e.map dOf)
      | some (.nx e) => some (false, .non, e.map dOf)
      | _ => none) = _
    rw [e]
    rfl
  have t : fTest (fOp2 gGt (fLd (fOp2 gIx (fLv 0) (fLd (fC (.int 0))))) (fLd (fC (.int 0)))) (pE a c n u .un .un .un) = some (decide (a > 0), pE a c n u .un .un .un) := test_op2 (fLd_of (op2_of rfl rfl rfl rfl rfl)) rfl rfl rfl rfl
  by_cases ha : a > 0
  · rw [decide_eq_true ha] at t
    have fb := fmod_bd (a := a) (b := u) (by omega)
    refine ⟨a.fmod u, a.fdiv u, n, _, run _ _ _ (.val (.int (a.fmod u))) .un .un ?_, ⟨Int.fdiv_nonneg h.a0 (by omega), h.c0, h.c1, h.n0, by have := h.n1; omega⟩, fb.1, fb.2⟩
    have a1 : fSet 2 (fOp2 gMod (fLd (fB gInt (flCons (fLd (fOp2 gIx (fLv 0) (fLd (fC (.int 0))))) flNil))) (fLv 1)) (pE a c n u .un .un .un) = some (.nx (pE a c n u (.val (.int (a.fmod u))) .un .un)) :=
      set_of (op2_of (fLd_of (fB1_of (fLd_of (op2_of rfl rfl rfl rfl (show gIx (potD a c n) (.int 0) = some (.int a) from rfl))) rfl (int_of a))) rfl rfl rfl (mod_of (by omega))) rfl
    have a2 : fAsg (fOp2 gFdiv (fLd (fOp2 gIx (fLv 0) (fLd (fC (.int 0))))) (fLv 1)) (fgSub 0 (fLd (fC (.int 0)))) (pE a c n u (.val (.int (a.fmod u))) .un .un) = some (.nx (pE (a.fdiv u) c n u (.val (.int (a.fmod u))) .un .un)) :=
      asg_of (op2_of (fLd_of (op2_of rfl rfl rfl rfl (show gIx (potD a c n) (.int 0) = some (.int a) from rfl))) rfl rfl rfl (fdiv_of (by omega))) rfl
    unfold f__law_take
    exact seq_rt (if_tt t (seq_nx a1 (seq_nx a2 rfl)))
  · rw [decide_eq_false ha] at t
    have hn := h.n0
    have hn1 := h.n1
    obtain ⟨q, q0, q1, hq⟩ := prime_of (i := (n + 1).fmod 5) (fmod_bd (by decide))
    have b1 := fmod_bd (a := (c + 89478 * (n + 1) * (n + 1) + 645) ^ 3) q0
    have s1 : fAsg (fOp2 gAdd (fLd (fOp2 gIx (fLv 0) (fLd (fC (.int 2))))) (fLd (fC (.int 1)))) (fgSub 0 (fLd (fC (.int 2)))) (pE a c n u .un .un .un) = some (.nx (pE a c (n + 1) u .un .un .un)) := rfl
    have s2 : fSet 3 (fOp2 gIx (fLd (fLst (faCons (fC (.int 2147483647)) (faCons (fC (.int 2147483629)) (faCons (fC (.int 2147483587)) (faCons (fC (.int 2147483579)) (faCons (fC (.int 2147483563)) faNil))))))) (fLd (fOp2 gMod (fLd (fB gInt (flCons (fLd (fOp2 gIx (fLv 0) (fLd (fC (.int 2))))) flNil))) (fLd (fC (.int 5)))))) (pE a c (n + 1) u .un .un .un) = some (.nx (pE a c (n + 1) u .un (.val (.int q)) .un)) :=
      set_of (op2_of (e2 := pE a c (n + 1) u .un .un .un) (fLd_of rfl) (fLd_of (op2_of (fLd_of (fB1_of (fLd_of (op2_of rfl rfl rfl rfl (show gIx (potD a c (n + 1)) (.int 2) = some (.int (n + 1)) from rfl))) rfl (int_of (n + 1)))) rfl rfl rfl (mod_of (by decide)))) rfl rfl hq) rfl
    have bits : Builtin.Int.intBits (c + 89478 * (n + 1) * (n + 1) + 645) ≤ 64 := by
      rw [intBits_le_iff]
      have h0 := h.c0
      have h1 := h.c1
      have : 0 ≤ (n + 1) * (n + 1) := Int.mul_nonneg (by omega) (by omega)
      have : (n + 1) * (n + 1) ≤ 1001 * 1001 := Int.mul_le_mul (by omega) (by omega) (by omega) (by omega)
      have e : 89478 * (n + 1) * (n + 1) = 89478 * ((n + 1) * (n + 1)) := Int.mul_assoc _ _ _
      rw [e]
      omega
    have s3 : fSet 4 (fOp2 gMod (fLd (fB gInt (flCons (fLd (fOp2 gPow (fLd (fB gInt (flCons (fLd (fOp2 gAdd (fLd (fOp2 gAdd (fLd (fOp2 gIx (fLv 0) (fLd (fC (.int 1))))) (fLd (fOp2 gMul (fLd (fOp2 gMul (fLd (fC (.int 89478))) (fLd (fOp2 gIx (fLv 0) (fLd (fC (.int 2))))))) (fLd (fOp2 gIx (fLv 0) (fLd (fC (.int 2))))))))) (fLd (fC (.int 645))))) flNil))) (fLd (fC (.int 3))))) flNil))) (fLv 3)) (pE a c (n + 1) u .un (.val (.int q)) .un)
        = some (.nx (pE a c (n + 1) u .un (.val (.int q)) (.val (.int (((c + 89478 * (n + 1) * (n + 1) + 645) ^ 3).fmod q))))) := by
      have i2 : fOp2 gIx (fLv 0) (fLd (fC (.int 2))) (pE a c (n + 1) u .un (.val (.int q)) .un) = some (.int (n + 1), pE a c (n + 1) u .un (.val (.int q)) .un) := rfl
      have i1 : fOp2 gIx (fLv 0) (fLd (fC (.int 1))) (pE a c (n + 1) u .un (.val (.int q)) .un) = some (.int c, pE a c (n + 1) u .un (.val (.int q)) .un) := rfl
      have m1 := op2_of (g := gMul) (fLd_of (show fC (.int 89478) (pE a c (n + 1) u .un (.val (.int q)) .un) = some (.int 89478, pE a c (n + 1) u .un (.val (.int q)) .un) from rfl)) (fLd_of i2) rfl rfl (mul_of (i := 89478) (j := n + 1) (by decide))
      have m2 := op2_of (g := gMul) (fLd_of m1) (fLd_of i2) rfl rfl (mul_of' (i := 89478 * (n + 1)) (j := n + 1) (by omega))
      have x1 := op2_of (g := DL.gAdd) (fLd_of i1) (fLd_of m2) rfl rfl rfl
      have x2 := op2_of (g := DL.gAdd) (fLd_of x1) (fLd_of (show fC (.int 645) (pE a c (n + 1) u .un (.val (.int q)) .un) = some (.int 645, pE a c (n + 1) u .un (.val (.int q)) .un) from rfl)) rfl rfl rfl
      have x3 := fB1_of (g := gInt) (fLd_of x2) rfl rfl
      have x4 := op2_of (g := gPow) (d := .int ((c + 89478 * (n + 1) * (n + 1) + 645) ^ 3)) (fLd_of x3) (fLd_of (show fC (.int 3) (pE a c (n + 1) u .un (.val (.int q)) .un) = some (.int 3, pE a c (n + 1) u .un (.val (.int q)) .un) from rfl)) rfl rfl (by
        show (if _ then _ else none) = _
        rw [if_pos ⟨by decide, by omega⟩]
        rfl)
      exact set_of (op2_of (fLd_of (fB1_of (fLd_of x4) rfl rfl)) rfl rfl rfl (mod_of q0)) rfl
    generalize hB : ((c + 89478 * (n + 1) * (n + 1) + 645) ^ 3).fmod q = B at s3 b1
    have s4 : fSet 4 (fOp2 gMod (fLd (fB gInt (flCons (fLd (fOp2 gMul (fLv 4) (fLd (fOp2 gAdd (fLd (fOp2 gMod (fLd (fB gInt (flCons (fLv 4) flNil))) (fLd (fC (.int 10259))))) (fLd (fOp2 gMul (fLd (fC (.int 122))) (fLd (fOp2 gIx (fLv 0) (fLd (fC (.int 2))))))))))) flNil))) (fLd (fC (.int 2305843009213693907)))) (pE a c (n + 1) u .un (.val (.int q)) (.val (.int B)))
        = some (.nx (pE a c (n + 1) u .un (.val (.int q)) (.val (.int ((B * (B.fmod 10259 + 122 * (n + 1))).fmod 2305843009213693907))))) := by
      have i2 : fOp2 gIx (fLv 0) (fLd (fC (.int 2))) (pE a c (n + 1) u .un (.val (.int q)) (.val (.int B))) = some (.int (n + 1), pE a c (n + 1) u .un (.val (.int q)) (.val (.int B))) := rfl
      have m1 := op2_of (g := gMul) (fLd_of (show fC (.int 122) (pE a c (n + 1) u .un (.val (.int q)) (.val (.int B))) = some (.int 122, pE a c (n + 1) u .un (.val (.int q)) (.val (.int B))) from rfl)) (fLd_of i2) rfl rfl (mul_of (i := 122) (j := n + 1) (by decide))
      have x1 : fB gInt (flCons (fLv 4) flNil) (pE a c (n + 1) u .un (.val (.int q)) (.val (.int B))) = some (.int B, pE a c (n + 1) u .un (.val (.int q)) (.val (.int B))) := rfl
      have x2 := op2_of (g := gMod) (fLd_of x1) (fLd_of (show fC (.int 10259) (pE a c (n + 1) u .un (.val (.int q)) (.val (.int B))) = some (.int 10259, pE a c (n + 1) u .un (.val (.int q)) (.val (.int B))) from rfl)) rfl rfl (mod_of (by decide))
      have x3 := op2_of (g := DL.gAdd) (fLd_of x2) (fLd_of m1) rfl rfl rfl
      have x4 := op2_of (g := gMul) (fa := fLv 4) (la := .inl 4) (a := .int B) (env := pE a c (n + 1) u .un (.val (.int q)) (.val (.int B))) rfl (fLd_of x3) rfl rfl (mul_of (by omega))
      exact set_of (op2_of (fLd_of (fB1_of (fLd_of x4) rfl (int_of _))) rfl rfl rfl (mod_of (by decide))) rfl
    have fb := fmod_bd (a := ((B * (B.fmod 10259 + 122 * (n + 1))).fmod 2305843009213693907).fdiv 152) (b := u) (by omega)
    refine ⟨_, a, n + 1, _, run _ _ _ .un (.val (.int q)) (.val (.int ((B * (B.fmod 10259 + 122 * (n + 1))).fmod 2305843009213693907))) ?_, ⟨h.a0, h.c0, h.c1, by omega, by omega⟩, fb.1, fb.2⟩
    unfold f__law_take
    have t' : (fIf (fTest (fOp2 gGt (fLd (fOp2 gIx (fLv 0) (fLd (fC (.int 0))))) (fLd (fC (.int 0)))))
    (fSeq (fSet 2 (fOp2 gMod (fLd (fB gInt (flCons (fLd (fOp2 gIx (fLv 0) (fLd (fC (.int 0))))) flNil))) (fLv 1)))
    (fSeq (fAsg (fOp2 gFdiv (fLd (fOp2 gIx (fLv 0) (fLd (fC (.int 0))))) (fLv 1)) (fgSub 0 (fLd (fC (.int 0)))))
    (fRet (fVar 2))))
    fSkip) (pE a c n u .un .un .un) = some (.nx (pE a c n u .un .un .un)) := if_ff t rfl
    refine seq_nx t' (seq_nx s1 (seq_nx s2 (seq_nx s3 (seq_nx s4 (ret_of ?_)))))
    exact op2_of (fLd_of (fB1_of (fLd_of (op2_of rfl rfl rfl rfl (fdiv_of (by decide)))) rfl (int_of _))) rfl rfl rfl (mod_of (by omega))
end Law
namespace DL
open PySem L2
theorem at_of {α : Type} {xs : List α} {i : Int} {x : α} (h0 : 0 ≤ i) (h : xs[i.toNat]? = some x) : atI xs i = some x := by
  obtain ⟨hl, _⟩ := List.getElem?_eq_some_iff.mp h
  unfold atI ixN
  rw [if_pos h0, if_pos (by omega)]
  exact h
theorem get_of {α : Type} {xs : List α} {i : Int} (h0 : 0 ≤ i) (h : i < xs.length) : ∃ x, xs[i.toNat]? = some x ∧ x ∈ xs := ⟨_, List.getElem?_eq_getElem (by omega), List.getElem_mem _⟩
/-- a loop that keeps a claim -/
theorem loopD_inv {α : Type} {ι : α → D} {g : FG} {f : FS} (Inv : Nat → En → Prop) {xs : List α} {k : Nat} {env : En} (hs : ∀ (i : Nat) x, xs[i]? = some x → ∀ env, Inv (k + i) env → ∃ e1, g (ι x) env = some e1 ∧ ∃ e2, (f e1 = some (.nx e2) ∨ f e1 = some (.ct e2)) ∧ Inv (k + i + 1) e2) (h : Inv k env) :
    ∃ env', loopD g f (xs.map ι) env = some (.nx env') ∧ Inv (k + xs.length) env' :=
  loopD_foldI (S := Unit) (fun _ _ => ()) (fun k _ env => Inv k env) (fun i x hx _ env he => hs i x hx env he) (s := ()) h
/-- a call that writes its first argument -/
theorem call_io {fn : Fn} {fs : FLs} {env e : En} {i : Nat} {ds outs : List D} {ms : List Bool} {ls : List LV} {fr : Bool} {r o : D} (hm : ∀ m ∈ ms, m = false) (h1 : fs env = some (.inl i :: ls, e)) (h2 : argsOf (true :: ms) (.inl i :: ls) e = some ds) (h3 : fn ds = some (fr, r, o :: outs)) : fCall (true :: ms) fn fs env = some (r, putOut i o e) := by
  have no : ∀ {ms : List Bool} {ls : List LV}, (∀ m ∈ ms, m = false) → iosOf ms ls = [] ∧ ∀ os env, putOuts ms ls os env = env := by
    intro ms
    induction ms with
    | nil => intro ls _; exact ⟨by simp [iosOf], fun os env => by simp [putOuts]⟩
    | cons m ms ih =>
      intro ls hm
      have e : m = false := hm m List.mem_cons_self
      subst e
      cases ls with
      | nil => exact ⟨rfl, fun os env => by simp [putOuts]⟩
      | cons l ls =>
        obtain ⟨i1, i2⟩ := ih (ls := ls) fun m h => hm m (List.mem_cons_of_mem _ h)
        refine ⟨by cases l <;> exact i1, fun os env => ?_⟩
        cases os with
        | nil => cases l <;> simp [putOuts]
        | cons o os => cases l <;> exact i2 os env
  unfold fCall
  rw [h1]
  simp only
  rw [h2]
  simp only
  rw [if_pos (by rw [iosOf, (no hm).1]; simp), h3]
  simp only
  rw [putOuts, (no hm).2]
end DL
namespace Law
open PySem L2 DL
theorem pow_of {i j : Int} (h : 0 ≤ j ∧ (Builtin.Int.intBits i : Int) * j ≤ 2 ^ 27) : gPow (.int i) (.int j) = some (.int (i ^ j.toNat)) := by
  show (if _ then _ else none) = _
  rw [if_pos h]
theorem big_bits : (Builtin.Int.intBits ((10 : Int) ^ 60) : Int) * 5 ≤ 2 ^ 27 := by decide +kernel
theorem big_pos : 0 < ((10 : Int) ^ 60) ^ 5 := Int.pow_pos (Int.pow_pos (by decide))
def pV (ns : List Int) (place : Int) (s2 s3 s4 : Sl) : En := [.val (.frl (ns.map D.int)), .val (.int place), s2, s3, s4]
theorem pot_ok {ns : List Int} {place : Int} (h : (0 ≤ place ∧ place < ns.length ∧ place ≤ 1000) ∨ (ns = [] ∧ place = 0)) :
    ∃ a c outs, N__law_pot [.frl (ns.map D.int), .int place] = some (true, potD a c 0, outs) ∧ PotOk 0 a c 0 := by
  have run : ∀ a c s2 s3 s4, f__law_pot (pV ns place .un .un .un) = some (.rt true (potD a c 0) (pV ns place s2 s3 s4)) → N__law_pot [.frl (ns.map D.int), .int place] = some (true, potD a c 0, (pV ns place s2 s3 s4).map dOf) := fun a c s2 s3 s4 e => by
    unfold N__law_pot runD
    show (match f__law_pot (pV ns place .un .un .un) with
      | some (.rt fr d e) => some (fr, d, e.map dOf)
      | some (.nx e) => some (false, .non, e.map dOf)
      | _ => none) = _
    rw [e]
  have pb : 0 ≤ place ∧ place ≤ 1000 := by rcases h with h | h <;> omega
  have a1 : ∃ x, fSet 2 (feIf (fTest (fOp2 gLt (fLv 1) (fLd (fB gLen (flCons (fLv 0) flNil))))) (fOp2 gIx (fLv 0) (fLv 1)) (fOp2 DL.gAdd (fLd (fOp2 DL.gAdd (fLd (fOp2 gMod (fLd (fB gSum (flCons (fLd (fSl (fLv 0) foNone (foSome (fC (.int 1))))) flNil))) (fLd (fC (.int 1000003))))) (fLd (fOp2 gMul (fLd (fC (.int 4735))) (fLv 1))))) (fLd (fC (.int 438))))) (pV ns place .un .un .un) = some (.nx (pV ns place (.val (.int x)) .un .un)) := by
    rcases h with ⟨h0, h1, h2⟩ | ⟨rfl, rfl⟩
    · obtain ⟨x, hx, _⟩ := get_of h0 h1
      refine ⟨x, set_of (d := .int x) (e := pV ns place .un .un .un) ?_ rfl⟩
      have t : fTest (fOp2 gLt (fLv 1) (fLd (fB gLen (flCons (fLv 0) flNil)))) (pV ns place .un .un .un) = some (true, pV ns place .un .un .un) := test_op2 rfl (fLd_of (fB1_of rfl rfl rfl)) rfl rfl (by
        show some (D.bl (decide (place < ((ns.map D.int).length : Nat)))) = _
        rw [List.length_map, decide_eq_true h1])
      unfold feIf
      rw [t]
      exact op2_of rfl rfl rfl rfl (at_of h0 (by rw [List.getElem?_map, hx]; rfl))
    · exact ⟨438, rfl⟩
  obtain ⟨x, a1⟩ := a1
  have T : fOp2 gPow (fLd (fOp2 gPow (fLd (fC (.int 10))) (fLd (fC (.int 60))))) (fLd (fC (.int 5))) (pV ns place (.val (.int x)) .un .un) = some (.int (((10 : Int) ^ 60) ^ 5), pV ns place (.val (.int x)) .un .un) :=
    op2_of (a := .int ((10 : Int) ^ 60)) (b := .int 5) (fLd_of (op2_of (a := .int 10) (b := .int 60) rfl rfl rfl rfl (pow_of ⟨by decide, by decide⟩))) rfl rfl rfl (pow_of ⟨by decide, big_bits⟩)
  have ab : fB gAbs (flCons (fLv 2) flNil) (pV ns place (.val (.int x)) .un .un) = some (.int (if x < 0 then -x else x), pV ns place (.val (.int x)) .un .un) := rfl
  generalize (if x < 0 then -x else x) = y at ab
  have m1 := op2_of (g := gMod) (fLd_of (fB1_of (g := gInt) (fLd_of ab) rfl rfl)) (fLd_of T) rfl rfl (mod_of big_pos)
  have ge : fOp2 gGe (fLd (fB gAbs (flCons (fLv 2) flNil))) (fLd (fOp2 gPow (fLd (fC (.int 10))) (fLd (fC (.int 18))))) (pV ns place (.val (.int x)) .un .un) = some (.bl (decide (y ≥ (10 : Int) ^ 18)), pV ns place (.val (.int x)) .un .un) :=
    op2_of (fLd_of ab) (fLd_of (op2_of (a := .int 10) (b := .int 18) rfl rfl rfl rfl (pow_of ⟨by decide, by decide⟩))) rfl rfl rfl
  have k1 : ∃ k : Int, (k = 0 ∨ k = 1) ∧ fB gInt (flCons (fLd (fOp2 gGe (fLd (fB gAbs (flCons (fLv 2) flNil))) (fLd (fOp2 gPow (fLd (fC (.int 10))) (fLd (fC (.int 18))))))) flNil) (pV ns place (.val (.int x)) .un .un) = some (.int k, pV ns place (.val (.int x)) .un .un) := by
    refine ⟨if decide (y ≥ (10 : Int) ^ 18) = true then 1 else 0, by split <;> simp, fB1_of (fLd_of ge) rfl rfl⟩
  obtain ⟨k, k01, k1⟩ := k1
  have a2 := set_of (i := 3) (op2_of (g := gMul) (fLd_of m1) (fLd_of k1) rfl rfl (mul_of' (by omega))) rfl
  have fb := fmod_bd (a := y) big_pos
  have own0 : 0 ≤ y.fmod (((10 : Int) ^ 60) ^ 5) * k := Int.mul_nonneg fb.1 (by omega)
  generalize y.fmod (((10 : Int) ^ 60) ^ 5) * k = own at a2 own0
  have a3 : fSet 4 (fOp2 gMod (fLd (fB gInt (flCons (fLv 2) flNil))) (fLd (fC (.int 2305843009213693951)))) (pV ns place (.val (.int x)) (.val (.int own)) .un) = some (.nx (pV ns place (.val (.int x)) (.val (.int own)) (.val (.int (x.fmod 2305843009213693951))))) :=
    set_of (op2_of (fLd_of (fB1_of rfl rfl (int_of x))) rfl rfl rfl (mod_of (by decide))) rfl
  have w := fmod_bd (a := x.fmod 2305843009213693951 * 92381 + 9151 * place * place + 845) (b := 2305843009213693921) (by decide)
  refine ⟨own, (x.fmod 2305843009213693951 * 92381 + 9151 * place * place + 845).fmod 2305843009213693921, _, run _ _ (.val (.int x)) (.val (.int own)) (.val (.int (x.fmod 2305843009213693951))) ?_, ⟨own0, w.1, by omega, Int.le_refl _, Int.le_refl _⟩⟩
  unfold f__law_pot
  refine seq_nx a1 (seq_nx a2 (seq_nx a3 ?_))
  have p1 : fVar 1 (pV ns place (.val (.int x)) (.val (.int own)) (.val (.int (x.fmod 2305843009213693951)))) = some (.int place, pV ns place (.val (.int x)) (.val (.int own)) (.val (.int (x.fmod 2305843009213693951)))) := rfl
  have n1 := op2_of (g := gMul) (fa := fLv 4) (fb := fLd (fC (.int 92381))) (la := .inl 4) (a := .int (x.fmod 2305843009213693951)) (b := .int 92381) (env := pV ns place (.val (.int x)) (.val (.int own)) (.val (.int (x.fmod 2305843009213693951)))) rfl rfl rfl rfl (mul_of' (by decide))
  have n2 := op2_of (g := gMul) (fa := fLd (fC (.int 9151))) (fb := fLv 1) (lb := .inl 1) (a := .int 9151) (b := .int place) (env := pV ns place (.val (.int x)) (.val (.int own)) (.val (.int (x.fmod 2305843009213693951)))) rfl rfl rfl rfl (mul_of (by decide))
  have n3 := op2_of (g := gMul) (fb := fLv 1) (lb := .inl 1) (b := .int place) (fLd_of n2) rfl rfl rfl (mul_of' (by omega))
  have n4 := op2_of (g := DL.gAdd) (fLd_of n1) (fLd_of n3) rfl rfl rfl
  have n5 := op2_of (g := DL.gAdd) (fb := fLd (fC (.int 845))) (b := .int 845) (fLd_of n4) rfl rfl rfl rfl
  have n6 := op2_of (g := gMod) (fb := fLd (fC (.int 2305843009213693921))) (b := .int 2305843009213693921) (fLd_of (fB1_of (g := gInt) (fLd_of n5) rfl (int_of _))) rfl rfl rfl (mod_of (by decide))
  refine retF_of ?_
  have v3 : fVar 3 (pV ns place (.val (.int x)) (.val (.int own)) (.val (.int (x.fmod 2305843009213693951)))) = some (.int own, pV ns place (.val (.int x)) (.val (.int own)) (.val (.int (x.fmod 2305843009213693951)))) := rfl
  unfold fLst
  have fa : faCons (fVar 3) (faCons (fOp2 gMod (fLd (fB gInt (flCons (fLd (fOp2 DL.gAdd (fLd (fOp2 DL.gAdd (fLd (fOp2 gMul (fLv 4) (fLd (fC (.int 92381))))) (fLd (fOp2 gMul (fLd (fOp2 gMul (fLd (fC (.int 9151))) (fLv 1))) (fLv 1))))) (fLd (fC (.int 845))))) flNil))) (fLd (fC (.int 2305843009213693921)))) (faCons (fC (.int 0)) faNil)) (pV ns place (.val (.int x)) (.val (.int own)) (.val (.int (x.fmod 2305843009213693951))))
      = some ([.int own, .int ((x.fmod 2305843009213693951 * 92381 + 9151 * place * place + 845).fmod 2305843009213693921), .int 0], pV ns place (.val (.int x)) (.val (.int own)) (.val (.int (x.fmod 2305843009213693951)))) := by
    simp only [faCons, v3, n6]
    rfl
  rw [fa]
  rfl
end Law
namespace DL
open PySem L2
theorem fB_of {g : List D → Option D} {fs : FLs} {env e : En} {ls : List LV} {ds : List D} {r : D} (h : fs env = some (ls, e)) (h2 : ress e ls = some ds) (h3 : g ds = some r) : fB g fs env = some (r, e) := by
  unfold fB
  simp only [h, h2, h3, Option.map_some]
end DL
namespace Law
open PySem L2 DL
theorem of_ok {N a c n : Int} {ds : List D} (h : PotOk N a c n) (hN : N ≤ 1000) (hl : 1 ≤ ds.length ∧ ds.length ≤ 1000) :
    ∃ d a' n' outs, N__law_of [potD a c n, .lst ds] = some (false, d, potD a' c n' :: outs) ∧ PotOk (N + 1) a' c n' ∧ d ∈ ds := by
  obtain ⟨k, a', n', outs, ht, hp, k0, k1⟩ := take_ok (u := (ds.length : Nat)) h hN (by omega)
  obtain ⟨d, hd, hm⟩ := get_of k0 k1
  refine ⟨d, a', n', [.lst ds], ?_, hp, hm⟩
  have e : f__law_of N__law_take [.own true (potD a c n), .val (.lst ds)] = some (.rt false d [.own true (potD a' c n'), .val (.lst ds)]) := by
    refine ret_of ?_
    have ln : fB gLen (flCons (fLv 1) flNil) [.own true (potD a c n), .val (.lst ds)] = some (.int ds.length, [.own true (potD a c n), .val (.lst ds)]) := rfl
    have c := call_io (fn := N__law_take) (ms := [false]) (fs := flCons (fLv 0) (flCons (fLd (fB gLen (flCons (fLv 1) flNil))) flNil)) (env := [.own true (potD a c n), .val (.lst ds)]) (i := 0) (by decide) (flCons_of rfl (flCons_of (fLd_of ln) rfl)) rfl ht
    exact op2_of rfl (fLd_of c) rfl rfl (at_of k0 hd)
  unfold N__law_of runD
  show (match f__law_of N__law_take [.own true (potD a c n), .val (.lst ds)] with
      | some (.rt fr d e) => some (fr, d, e.map dOf)
      | some (.nx e) => some (false, .non, e.map dOf)
      | _ => none) = _
  rw [e]
  rfl
def sV (L : List (List Int)) (k : Int) (a c n : Int) (rest M : List (List Int)) (s5 : Sl) : En := [.own true (potD a c n), .val (.lst (L.map tupI)), .val (.int k), .own false (.lst (rest.map tupI)), .own false (.lst (M.map tupI)), s5]
theorem eraseIdx_map' {α β : Type} (f : α → β) : ∀ (xs : List α) (j : Nat), (xs.map f).eraseIdx j = (xs.eraseIdx j).map f
  | [], _ => rfl
  | _ :: _, 0 => rfl
  | x :: xs, j + 1 => by
    show f x :: (xs.map f).eraseIdx j = f x :: (xs.eraseIdx j).map f
    rw [eraseIdx_map' f xs j]
theorem eraseIdx_len {α : Type} : ∀ {xs : List α} {j : Nat}, j < xs.length → (xs.eraseIdx j).length + 1 = xs.length
  | _ :: _, 0, _ => rfl
  | x :: xs, j + 1, h => by
    show (xs.eraseIdx j).length + 1 + 1 = xs.length + 1
    rw [eraseIdx_len (by simpa using h)]
theorem eraseIdx_sub {α : Type} {xs : List α} {j : Nat} {x : α} (h : x ∈ xs.eraseIdx j) : x ∈ xs := List.mem_of_mem_eraseIdx h
theorem some_ok {N a c n k : Int} {L : List (List Int)} (h : PotOk N a c n) (hN : 0 ≤ N ∧ N + k ≤ 1000) (hl : L.length ≤ 1000) (hk : 0 ≤ k ∧ k ≤ L.length) :
    ∃ (M : List (List Int)) (a' n' : Int) (outs : List D), N__law_some [potD a c n, .lst (L.map tupI), .int k] = some (true, .lst (M.map tupI), potD a' c n' :: outs) ∧ PotOk (N + k) a' c n' ∧ (∀ s ∈ M, s ∈ L) ∧ M.length ≤ 1000 := by
  have p0 : fPar [3, 4] (fmOwn (fB gList (flCons (fLv 1) flNil)) (fmOwn (fLst faNil) fmNil)) [.own true (potD a c n), .val (.lst (L.map tupI)), .val (.int k), .un, .un, .un] = some (.nx (sV L k a c n L [] .un)) := rfl
  obtain ⟨env', hl1, a', n', s5, rest, M, hp, _, _, hM, hML, m5, rfl⟩ := loopD_inv (α := Int) (ι := D.int) (g := setE 5) (f := fDrop (fAppend 4 (faCons (fPopAt 3 (faCons (fCall [true, false] N__law_take (flCons (fLv 0) (flCons (fLd (fB gLen (flCons (fLv 3) flNil))) flNil))) faNil)) faNil)))
    (fun i env => ∃ (a' n' : Int) (s5 : Sl) (rest M : List (List Int)), PotOk (N + i) a' c n' ∧ rest.length + i = L.length ∧ (∀ s ∈ rest, s ∈ L) ∧ (∀ s ∈ M, s ∈ L) ∧ M.length = i ∧ s5.mine = true ∧ env = sV L k a' c n' rest M s5) (xs := rngI 0 k) (k := 0) (env := sV L k a c n L [] .un) (fun i x hx env he => by
      obtain ⟨a', n', s5, rest, M, hp, hr, hrs, hM, hMl, m5, rfl⟩ := he
      have hi := (List.getElem?_eq_some_iff.mp hx).1
      rw [rngI_len] at hi
      rw [Nat.zero_add] at hp hr hMl ⊢
      obtain ⟨d, a2, n2, outs, ht, hp2, d0, d1⟩ := take_ok (u := (rest.length : Nat)) hp (by omega) (by omega)
      obtain ⟨s, hs, hm⟩ := get_of d0 d1
      refine ⟨sV L k a' c n' rest M (.val (.int x)), setE_mine rfl m5, sV L k a2 c n2 (rest.eraseIdx d.toNat) (M ++ [s]) (.val (.int x)), .inl ?_, a2, n2, _, rest.eraseIdx d.toNat, M ++ [s], by
        rw [show N + ((i + 1 : Nat) : Int) = N + (i : Nat) + 1 by omega]; exact hp2, ?_, fun t ht => hrs t (eraseIdx_sub ht), fun t ht => ?_, by rw [List.length_append, hMl]; rfl, rfl, rfl⟩
      · have ln : fB gLen (flCons (fLv 3) flNil) (sV L k a' c n' rest M (.val (.int x))) = some (.int rest.length, sV L k a' c n' rest M (.val (.int x))) := by
          refine fB1_of rfl rfl ?_
          show some (D.int ((rest.map tupI).length : Nat)) = _
          rw [List.length_map]
        have cl := call_io (fn := N__law_take) (ms := [false]) (fs := flCons (fLv 0) (flCons (fLd (fB gLen (flCons (fLv 3) flNil))) flNil)) (env := sV L k a' c n' rest M (.val (.int x))) (i := 0) (by decide) (flCons_of rfl (flCons_of (fLd_of ln) rfl)) rfl ht
        have fa : faCons (fCall [true, false] N__law_take (flCons (fLv 0) (flCons (fLd (fB gLen (flCons (fLv 3) flNil))) flNil))) faNil (sV L k a' c n' rest M (.val (.int x))) = some ([.int d], sV L k a2 c n2 rest M (.val (.int x))) := by
          unfold faCons
          rw [cl]
          rfl
        have ix : ixN (rest.map tupI).length d = some d.toNat := by
          unfold ixN
          rw [if_pos d0, List.length_map, if_pos d1]
        have gt : (rest.map tupI)[d.toNat]? = some (tupI s) := by rw [List.getElem?_map, hs]; rfl
        have pp : fPopAt 3 (faCons (fCall [true, false] N__law_take (flCons (fLv 0) (flCons (fLd (fB gLen (flCons (fLv 3) flNil))) flNil))) faNil) (sV L k a' c n' rest M (.val (.int x))) = some (tupI s, sV L k a2 c n2 (rest.eraseIdx d.toNat) M (.val (.int x))) := by
          unfold fPopAt
          rw [show lstAt 3 (sV L k a' c n' rest M (.val (.int x))) = some (false, rest.map tupI) from rfl]
          simp only [fa, show lstAt 3 (sV L k a2 c n2 rest M (.val (.int x))) = some (false, rest.map tupI) from rfl]
          rw [if_pos (by omega)]
          simp only [ix, gt, eraseIdx_map']
          rfl
        have fa2 : faCons (fPopAt 3 (faCons (fCall [true, false] N__law_take (flCons (fLv 0) (flCons (fLd (fB gLen (flCons (fLv 3) flNil))) flNil))) faNil)) faNil (sV L k a' c n' rest M (.val (.int x))) = some ([tupI s], sV L k a2 c n2 (rest.eraseIdx d.toNat) M (.val (.int x))) := by
          rw [faCons]
          rw [pp]
          rfl
        have happ : fAppend 4 (faCons (fPopAt 3 (faCons (fCall [true, false] N__law_take (flCons (fLv 0) (flCons (fLd (fB gLen (flCons (fLv 3) flNil))) flNil))) faNil)) faNil) (sV L k a' c n' rest M (.val (.int x))) = some (.non, sV L k a2 c n2 (rest.eraseIdx d.toNat) (M ++ [s]) (.val (.int x))) := by
          unfold fAppend
          rw [show lstAt 4 (sV L k a' c n' rest M (.val (.int x))) = some (false, M.map tupI) from rfl]
          simp only [fa2, show lstAt 4 (sV L k a2 c n2 (rest.eraseIdx d.toNat) M (.val (.int x))) = some (false, M.map tupI) from rfl]
          rw [if_pos (by rw [List.length_map, hMl]; exact Nat.lt_of_lt_of_le (by omega) (show 1001 ≤ mx by decide))]
          show some (D.non, _) = some (D.non, _)
          unfold sV
          rw [List.map_append]
          rfl
        unfold fDrop
        rw [happ]
        rfl
      · have := eraseIdx_len (xs := rest) (j := d.toNat) (by omega)
        omega
      · rcases List.mem_append.mp ht with z | z
        · exact hM t z
        · rw [List.mem_singleton.mp z]
          exact hrs s hm) ⟨a, n, .un, L, [], by simpa using h, by simp, fun _ h => h, (fun _ h => nomatch h), rfl, rfl, rfl⟩
  rw [Nat.zero_add, rngI_len] at hp hML
  have hfor : fFor (fiRng1 (flCons (fLv 2) flNil)) (setE 5) (fDrop (fAppend 4 (faCons (fPopAt 3 (faCons (fCall [true, false] N__law_take (flCons (fLv 0) (flCons (fLd (fB gLen (flCons (fLv 3) flNil))) flNil))) faNil)) faNil))) (sV L k a c n L [] .un) = some (.nx (sV L k a' c n' rest M s5)) := by
    refine forD_of (ds := (rngI 0 k).map D.int) (e := sV L k a c n L [] .un) ?_ hl1
    show (if _ then some (rngD 0 k.toNat, _) else none) = _
    rw [if_pos (by omega), ← rngD_is, Int.sub_zero]
  refine ⟨M, a', n', ((sV L k a' c n' rest M s5).set 4 .un).tail.map dOf, ?_, by rw [show (N + k : Int) = N + ((k - 0).toNat : Nat) by omega]; exact hp, hM, by omega⟩
  · unfold N__law_some runD
    show (match f__law_some N__law_take [.own true (potD a c n), .val (.lst (L.map tupI)), .val (.int k), .un, .un, .un] with
      | some (.rt fr d e) => some (fr, d, e.map dOf)
      | some (.nx e) => some (false, .non, e.map dOf)
      | _ => none) = _
    unfold f__law_some
    have e : fSeq (fPar [3, 4] (fmOwn (fB gList (flCons (fLv 1) flNil)) (fmOwn (fLst faNil) fmNil))) (fSeq (fFor (fiRng1 (flCons (fLv 2) flNil)) (setE 5) (fDrop (fAppend 4 (faCons (fPopAt 3 (faCons (fCall [true, false] N__law_take (flCons (fLv 0) (flCons (fLd (fB gLen (flCons (fLv 3) flNil))) flNil))) faNil)) faNil)))) (fRetO 4)) [.own true (potD a c n), .val (.lst (L.map tupI)), .val (.int k), .un, .un, .un] = some (.rt true (.lst (M.map tupI)) ((sV L k a' c n' rest M s5).set 4 .un)) := seq_nx p0 (seq_nx hfor rfl)
    rw [e]
    rfl
theorem sp_law_places (ns : List Int) (hl : ns.length ≤ 1000000) : Gives N__law_places [.frl (ns.map D.int), .int 3] true (.lst ((rngI 0 (mxI 1 (mnI 3 ns.length))).map D.int)) := by
  refine gives_run (e := [.val (.frl (ns.map D.int)), .val (.int 3)]) rfl ?_
  show f__law_places [.val (.frl (ns.map D.int)), .val (.int 3)] = _
  refine retF_of ?_
  have ln : fB gLen (flCons (fLv 0) flNil) [.val (.frl (ns.map D.int)), .val (.int 3)] = some (.int ns.length, [.val (.frl (ns.map D.int)), .val (.int 3)]) := by
    refine fB1_of rfl rfl ?_
    show some (D.int ((ns.map D.int).length : Nat)) = _
    rw [List.length_map]
  have m1 : fB gMin (flCons (fLv 1) (flCons (fLd (fB gLen (flCons (fLv 0) flNil))) flNil)) [.val (.frl (ns.map D.int)), .val (.int 3)] = some (.int (mnI 3 ns.length), [.val (.frl (ns.map D.int)), .val (.int 3)]) :=
    fB_of (flCons_of (f := fLv 1) (env := [.val (.frl (ns.map D.int)), .val (.int 3)]) rfl (flCons_of (fLd_of ln) (r := flNil) rfl)) rfl rfl
  have m2 : fB gMax (flCons (fLd (fC (.int 1))) (flCons (fLd (fB gMin (flCons (fLv 1) (flCons (fLd (fB gLen (flCons (fLv 0) flNil))) flNil)))) flNil)) [.val (.frl (ns.map D.int)), .val (.int 3)] = some (.int (mxI 1 (mnI 3 ns.length)), [.val (.frl (ns.map D.int)), .val (.int 3)]) :=
    fB_of (flCons_of (f := fLd (fC (.int 1))) (env := [.val (.frl (ns.map D.int)), .val (.int 3)]) rfl (flCons_of (fLd_of m1) (r := flNil) rfl)) rfl rfl
  have bd : 1 ≤ mxI 1 (mnI 3 ns.length) ∧ mxI 1 (mnI 3 ns.length) ≤ 3 := by
    unfold mxI mnI
    split <;> split <;> omega
  unfold fLstRg fRg1
  simp only [m2]
  rw [if_pos (by
    unfold rgOk
    simp only [Bool.and_eq_true, decide_eq_true_eq]
    have : (3 : Nat) ≤ mx := by decide
    omega), rngD_is]
end Law
namespace DL
open PySem L2
theorem feif_tt {t : FT} {f g : FE} {env e : En} {o : Option (D × En)} (h : t env = some (true, e)) (h2 : f e = o) : feIf t f g env = o := by
  unfold feIf
  rw [h]
  exact h2
theorem feif_ff {t : FT} {f g : FE} {env e : En} {o : Option (D × En)} (h : t env = some (false, e)) (h2 : g e = o) : feIf t f g env = o := by
  unfold feIf
  rw [h]
  exact h2
end DL
namespace Law
open PySem L2 DL
abbrev GRow := Int × List (Option (List Int))
def rowG (r : GRow) : D := .tup [.int r.1, endsD r.2]
def gmD (rs : List GRow) : D := .lst (rs.map rowG)
def osG (h m p : Int) : List Int := if h = 0 then [h] else rngI (mxI 1 (h - p)) (mnI m (h + p) + 1)
def growG (s : List Int) (m p : Int) : List GRow := (throwsO s m).map fun h => (h, (osG h m p).map (endL s))
def gE (b m p : Int) (FD : D) (s4 s5 s6 s7 s8 s9 s10 s11 : Sl) : En := [.val (.int b), .val (.int m), .val (.int p), .own false FD, s4, s5, s6, s7, s8, s9, s10, s11, .un]
abbrev bodyG1 : FS := fSeq (fSet 11 (feAnd (fOp2 gGt (fLv 10) (fLd (fC (.int 0)))) (fOp2 gIn (fLd (fOp2 DL.gSub (fLv 10) (fLd (fC (.int 1))))) (fLv 5))))
    (fDrop (fAppend 9 (faCons (feIf (fTest (fVar 11)) (fC .non) (fB gTuple (flCons (fLd (fB gSorted (flCons (fLd (fOp2 DL.gAdd (fLv 5) (fLd (feIf (fTest (fOp2 gGt (fLv 10) (fLd (fC (.int 0))))) (fLst (faCons (fOp2 DL.gSub (fLv 10) (fLd (fC (.int 1)))) faNil)) (fLst faNil))))) flNil))) flNil))) faNil)))
theorem restO_len {s : List Int} : (restO s).length ≤ s.length := by
  unfold restO
  rw [List.length_map]
  exact List.length_filter_le _ _
theorem bodyG1_ok {b m p : Int} {FD : D} {s : List Int} {s4 s6 s7 s8 s11 : Sl} {es : List D} {o : Int} (hs : s.length ≤ 1000) (he : es.length < 1000) (m11 : s11.mine = true) :
    bodyG1 (gE b m p FD s4 (.val (.lst ((restO s).map D.int))) s6 s7 s8 (.own false (.lst es)) (.val (.int o)) s11) = some (.nx (gE b m p FD s4 (.val (.lst ((restO s).map D.int))) s6 s7 s8 (.own false (.lst (es ++ [oD (endL s o)]))) (.val (.int o)) (.val (.bl (decide (o > 0) && (restO s).any (fun n => n == o - 1)))))) := by
  have g1 : ∀ s11 : Sl, fOp2 gGt (fLv 10) (fLd (fC (.int 0))) (gE b m p FD s4 (.val (.lst ((restO s).map D.int))) s6 s7 s8 (.own false (.lst es)) (.val (.int o)) s11) = some (.bl (decide (o > 0)), gE b m p FD s4 (.val (.lst ((restO s).map D.int))) s6 s7 s8 (.own false (.lst es)) (.val (.int o)) s11) := fun _ => rfl
  have u1 : ∀ s11 : Sl, fOp2 DL.gSub (fLv 10) (fLd (fC (.int 1))) (gE b m p FD s4 (.val (.lst ((restO s).map D.int))) s6 s7 s8 (.own false (.lst es)) (.val (.int o)) s11) = some (.int (o - 1), gE b m p FD s4 (.val (.lst ((restO s).map D.int))) s6 s7 s8 (.own false (.lst es)) (.val (.int o)) s11) := fun _ => rfl
  have i1 : fOp2 gIn (fLd (fOp2 DL.gSub (fLv 10) (fLd (fC (.int 1))))) (fLv 5) (gE b m p FD s4 (.val (.lst ((restO s).map D.int))) s6 s7 s8 (.own false (.lst es)) (.val (.int o)) s11) = some (.bl ((restO s).any fun n => n == o - 1), gE b m p FD s4 (.val (.lst ((restO s).map D.int))) s6 s7 s8 (.own false (.lst es)) (.val (.int o)) s11) :=
    op2_of (fLd_of (u1 s11)) rfl rfl rfl (by unfold gIn; rw [inB_lst]; rfl)
  have a1 : fSet 11 (feAnd (fOp2 gGt (fLv 10) (fLd (fC (.int 0)))) (fOp2 gIn (fLd (fOp2 DL.gSub (fLv 10) (fLd (fC (.int 1))))) (fLv 5))) (gE b m p FD s4 (.val (.lst ((restO s).map D.int))) s6 s7 s8 (.own false (.lst es)) (.val (.int o)) s11) = some (.nx (gE b m p FD s4 (.val (.lst ((restO s).map D.int))) s6 s7 s8 (.own false (.lst es)) (.val (.int o)) (.val (.bl (decide (o > 0) && (restO s).any (fun n => n == o - 1)))))) := by
    refine set_of (e := gE b m p FD s4 (.val (.lst ((restO s).map D.int))) s6 s7 s8 (.own false (.lst es)) (.val (.int o)) s11) ?_ (setE_mine rfl m11)
    unfold feAnd
    rw [g1]
    cases q : decide (o > 0) with
    | true => simp only [i1, Bool.true_and]
    | false => rfl
  refine seq_nx a1 ?_
  have key : feIf (fTest (fVar 11)) (fC .non) (fB gTuple (flCons (fLd (fB gSorted (flCons (fLd (fOp2 DL.gAdd (fLv 5) (fLd (feIf (fTest (fOp2 gGt (fLv 10) (fLd (fC (.int 0))))) (fLst (faCons (fOp2 DL.gSub (fLv 10) (fLd (fC (.int 1)))) faNil)) (fLst faNil))))) flNil))) flNil)) (gE b m p FD s4 (.val (.lst ((restO s).map D.int))) s6 s7 s8 (.own false (.lst es)) (.val (.int o)) (.val (.bl (decide (o > 0) && (restO s).any (fun n => n == o - 1)))))
      = some (oD (endL s o), gE b m p FD s4 (.val (.lst ((restO s).map D.int))) s6 s7 s8 (.own false (.lst es)) (.val (.int o)) (.val (.bl (decide (o > 0) && (restO s).any (fun n => n == o - 1))))) := by
    generalize hk : (decide (o > 0) && (restO s).any (fun n => n == o - 1)) = k
    have t11 : fTest (fVar 11) (gE b m p FD s4 (.val (.lst ((restO s).map D.int))) s6 s7 s8 (.own false (.lst es)) (.val (.int o)) (.val (.bl k))) = some (k, gE b m p FD s4 (.val (.lst ((restO s).map D.int))) s6 s7 s8 (.own false (.lst es)) (.val (.int o)) (.val (.bl k))) := rfl
    unfold endL
    cases k with
    | true =>
      rw [Bool.and_eq_true, decide_eq_true_eq] at hk
      rw [if_pos hk]
      unfold feIf
      rw [t11]
      rfl
    | false =>
      have hk' : ¬ (o > 0 ∧ (restO s).any (fun n => n == o - 1) = true) := fun z => by
        rw [decide_eq_true z.1, z.2] at hk
        cases hk
      rw [if_neg hk']
      have x1 : feIf (fTest (fOp2 gGt (fLv 10) (fLd (fC (.int 0))))) (fLst (faCons (fOp2 DL.gSub (fLv 10) (fLd (fC (.int 1)))) faNil)) (fLst faNil) (gE b m p FD s4 (.val (.lst ((restO s).map D.int))) s6 s7 s8 (.own false (.lst es)) (.val (.int o)) (.val (.bl false))) = some (.lst ((if o > 0 then [o - 1] else []).map D.int), gE b m p FD s4 (.val (.lst ((restO s).map D.int))) s6 s7 s8 (.own false (.lst es)) (.val (.int o)) (.val (.bl false))) := by
        have t := test_of' (g1 (.val (.bl false)))
        unfold feIf
        rw [t]
        by_cases ho : o > 0
        · rw [decide_eq_true ho, if_pos ho]
          rfl
        · rw [decide_eq_false ho, if_neg ho]
          rfl
      have hl : (restO s).length + 1 ≤ 1001 := by have := restO_len (s := s); omega
      have x2 := op2_of (g := DL.gAdd) (fa := fLv 5) (la := .inl 5) (env := gE b m p FD s4 (.val (.lst ((restO s).map D.int))) s6 s7 s8 (.own false (.lst es)) (.val (.int o)) (.val (.bl false))) (a := .lst ((restO s).map D.int)) (d := .lst ((restO s ++ if o > 0 then [o - 1] else []).map D.int)) rfl (fLd_of x1) rfl rfl (by
        show (if _ then _ else none) = _
        rw [if_pos (by
          rw [List.length_map, List.length_map]
          refine Nat.le_trans ?_ (show 1001 ≤ mx by decide)
          by_cases ho : o > 0
          · rw [if_pos ho]; exact hl
          · rw [if_neg ho]; show (restO s).length + 0 ≤ _; omega), List.map_append])
      have x3 := fB1_of (g := gSorted) (fLd_of x2) rfl (sortedD_ints _)
      have x4 := fB1_of (g := gTuple) (fLd_of x3) rfl (show _ = some (tupI (sortI (restO s ++ if o > 0 then [o - 1] else []))) from rfl)
      exact feif_ff t11 x4
  generalize (decide (o > 0) && (restO s).any (fun n => n == o - 1)) = k at key
  have fa : ∀ (f : FE) {d : D} {env : En}, f env = some (d, env) → faCons f faNil env = some ([d], env) := fun f d env h => by
    unfold faCons
    rw [h]
    rfl
  have happ : ∀ (f : FE) {d : D}, f (gE b m p FD s4 (.val (.lst ((restO s).map D.int))) s6 s7 s8 (.own false (.lst es)) (.val (.int o)) (.val (.bl k))) = some (d, gE b m p FD s4 (.val (.lst ((restO s).map D.int))) s6 s7 s8 (.own false (.lst es)) (.val (.int o)) (.val (.bl k))) → fDrop (fAppend 9 (faCons f faNil)) (gE b m p FD s4 (.val (.lst ((restO s).map D.int))) s6 s7 s8 (.own false (.lst es)) (.val (.int o)) (.val (.bl k))) = some (.nx (gE b m p FD s4 (.val (.lst ((restO s).map D.int))) s6 s7 s8 (.own false (.lst (es ++ [d]))) (.val (.int o)) (.val (.bl k)))) := fun f d h => by
    have h2 := fa f h
    unfold fDrop fAppend
    rw [show lstAt 9 (gE b m p FD s4 (.val (.lst ((restO s).map D.int))) s6 s7 s8 (.own false (.lst es)) (.val (.int o)) (.val (.bl k))) = some (false, es) from rfl]
    simp only [h2, show lstAt 9 (gE b m p FD s4 (.val (.lst ((restO s).map D.int))) s6 s7 s8 (.own false (.lst es)) (.val (.int o)) (.val (.bl k))) = some (false, es) from rfl]
    rw [if_pos (Nat.lt_of_lt_of_le he (by decide))]
    rfl
  exact happ _ key
abbrev loopG1 : FS := fFor (fiSeq (fVar 8)) (setE 10) bodyG1
theorem loopG1_ok {b m p : Int} {FD : D} {s os : List Int} {s4 s6 s7 s10 s11 : Sl} (hs : s.length ≤ 1000) (ho : os.length ≤ 1000) (m10 : s10.mine = true) (m11 : s11.mine = true) :
    ∃ t10 t11, t10.mine = true ∧ t11.mine = true ∧ loopG1 (gE b m p FD s4 (.val (.lst ((restO s).map D.int))) s6 s7 (.val (.lst (os.map D.int))) (.own false (.lst [])) s10 s11) = some (.nx (gE b m p FD s4 (.val (.lst ((restO s).map D.int))) s6 s7 (.val (.lst (os.map D.int))) (.own false (endsD (os.map (endL s)))) t10 t11)) := by
  obtain ⟨env', hl, t10, t11, n10, n11, rfl⟩ := loopD_inv (α := Int) (ι := D.int) (g := setE 10) (f := bodyG1)
    (fun i env => ∃ t10 t11 : Sl, t10.mine = true ∧ t11.mine = true ∧ env = gE b m p FD s4 (.val (.lst ((restO s).map D.int))) s6 s7 (.val (.lst (os.map D.int))) (.own false (.lst ((os.take i).map fun o => oD (endL s o)))) t10 t11) (xs := os) (k := 0) (env := gE b m p FD s4 (.val (.lst ((restO s).map D.int))) s6 s7 (.val (.lst (os.map D.int))) (.own false (.lst [])) s10 s11) (fun i o hx env he => by
      obtain ⟨t10, t11, n10, n11, rfl⟩ := he
      have hi := (List.getElem?_eq_some_iff.mp hx).1
      rw [Nat.zero_add]
      refine ⟨gE b m p FD s4 (.val (.lst ((restO s).map D.int))) s6 s7 (.val (.lst (os.map D.int))) (.own false (.lst ((os.take i).map fun o => oD (endL s o)))) (.val (.int o)) t11, setE_mine rfl n10, _, .inl (bodyG1_ok hs (by rw [List.length_map, List.length_take]; omega) n11), .val (.int o), .val (.bl (decide (o > 0) && (restO s).any (fun n => n == o - 1))), rfl, rfl, ?_⟩
      rw [DL.take_next hx, List.map_append]
      rfl) ⟨s10, s11, m10, m11, rfl⟩
  refine ⟨t10, t11, n10, n11, ?_⟩
  rw [Nat.zero_add, List.take_length] at hl
  have := forD_of (fi := fiSeq (fVar 8)) (env := gE b m p FD s4 (.val (.lst ((restO s).map D.int))) s6 s7 (.val (.lst (os.map D.int))) (.own false (.lst [])) s10 s11) rfl hl
  unfold endsD
  rw [List.map_map]
  exact this
end Law
namespace Law
open PySem L2 DL
abbrev slipsG : FE := feIf (fTest (fOp2 gEq (fLv 7) (fLd (fC (.int 0))))) (fLst (faCons (fVar 7) faNil)) (fLstRg id (fRg2 (fB gMax (flCons (fLd (fC (.int 1))) (flCons (fLd (fOp2 DL.gSub (fLv 7) (fLv 2))) flNil))) (fOp2 DL.gAdd (fLd (fB gMin (flCons (fLv 1) (flCons (fLd (fOp2 DL.gAdd (fLv 7) (fLv 2))) flNil)))) (fLd (fC (.int 1))))))
abbrev bodyG2 : FS := fSeq (fSet 8 slipsG) (fSeq (fSetO 9 (fLst faNil)) (fSeq loopG1 (fFrz 9 (fDrop (fAppend 6 (faCons (fTup (faCons (fVar 7) (faCons (fVar 9) faNil))) faNil))))))
theorem osG_len {h m p : Int} (hm : 0 ≤ m ∧ m ≤ 15) (hp : 0 ≤ p) : (osG h m p).length ≤ 16 := by
  unfold osG
  split
  · simp
  · rw [rngI_len]
    unfold mxI mnI
    split <;> split <;> omega
theorem slipsG_ok {b m p : Int} {FD : D} {s4 s5 s6 s8 s9 s10 s11 : Sl} {h : Int} (hm : 0 ≤ m ∧ m ≤ 15) (hp : 0 ≤ p ∧ p ≤ 5) (hh : 0 ≤ h ∧ h ≤ m) :
    slipsG (gE b m p FD s4 s5 s6 (.val (.int h)) s8 s9 s10 s11) = some (.lst ((osG h m p).map D.int), gE b m p FD s4 s5 s6 (.val (.int h)) s8 s9 s10 s11) := by
  have t : fTest (fOp2 gEq (fLv 7) (fLd (fC (.int 0)))) (gE b m p FD s4 s5 s6 (.val (.int h)) s8 s9 s10 s11) = some (decide (h = 0), gE b m p FD s4 s5 s6 (.val (.int h)) s8 s9 s10 s11) := test_op2 rfl rfl rfl rfl rfl
  unfold osG
  by_cases h0 : h = 0
  · rw [decide_eq_true h0] at t
    rw [if_pos h0]
    exact feif_tt t rfl
  · rw [decide_eq_false h0] at t
    rw [if_neg h0]
    refine feif_ff t ?_
    have m1 : fB gMax (flCons (fLd (fC (.int 1))) (flCons (fLd (fOp2 DL.gSub (fLv 7) (fLv 2))) flNil)) (gE b m p FD s4 s5 s6 (.val (.int h)) s8 s9 s10 s11) = some (.int (mxI 1 (h - p)), gE b m p FD s4 s5 s6 (.val (.int h)) s8 s9 s10 s11) := rfl
    have m2 : fOp2 DL.gAdd (fLd (fB gMin (flCons (fLv 1) (flCons (fLd (fOp2 DL.gAdd (fLv 7) (fLv 2))) flNil)))) (fLd (fC (.int 1))) (gE b m p FD s4 s5 s6 (.val (.int h)) s8 s9 s10 s11) = some (.int (mnI m (h + p) + 1), gE b m p FD s4 s5 s6 (.val (.int h)) s8 s9 s10 s11) := rfl
    have bd : 1 ≤ mxI 1 (h - p) ∧ mxI 1 (h - p) ≤ 16 ∧ 0 ≤ mnI m (h + p) ∧ mnI m (h + p) ≤ 15 := by
      unfold mxI mnI
      split <;> split <;> omega
    unfold fLstRg fRg2
    simp only [m1, m2]
    rw [if_pos (by
      unfold rgOk
      simp only [Bool.and_eq_true, decide_eq_true_eq]
      have : (16 : Nat) ≤ mx := by decide
      omega), rngD_is]
theorem bodyG2_ok {b m p : Int} {FD : D} {s : List Int} {s4 s8 s9 s10 s11 : Sl} {h : Int} {rs : List D} (hm : 0 ≤ m ∧ m ≤ 15) (hp : 0 ≤ p ∧ p ≤ 5) (hh : 0 ≤ h ∧ h ≤ m) (hs : s.length ≤ 1000) (hr : rs.length < 1000) (m8 : s8.mine = true) (m9 : s9.mine = true) (m10 : s10.mine = true) (m11 : s11.mine = true) :
    ∃ t8 t9 t10 t11, t8.mine = true ∧ t9.mine = true ∧ t10.mine = true ∧ t11.mine = true ∧
      bodyG2 (gE b m p FD s4 (.val (.lst ((restO s).map D.int))) (.own false (.lst rs)) (.val (.int h)) s8 s9 s10 s11) = some (.nx (gE b m p FD s4 (.val (.lst ((restO s).map D.int))) (.own false (.lst (rs ++ [rowG (h, (osG h m p).map (endL s))]))) (.val (.int h)) t8 t9 t10 t11)) := by
  have a1 := set_of (i := 8) (slipsG_ok (b := b) (m := m) (p := p) (FD := FD) (s4 := s4) (s5 := .val (.lst ((restO s).map D.int))) (s6 := .own false (.lst rs)) (s8 := s8) (s9 := s9) (s10 := s10) (s11 := s11) hm hp hh) (setE_mine rfl m8)
  have a2 : fSetO 9 (fLst faNil) (gE b m p FD s4 (.val (.lst ((restO s).map D.int))) (.own false (.lst rs)) (.val (.int h)) (.val (.lst ((osG h m p).map D.int))) s9 s10 s11) = some (.nx (gE b m p FD s4 (.val (.lst ((restO s).map D.int))) (.own false (.lst rs)) (.val (.int h)) (.val (.lst ((osG h m p).map D.int))) (.own false (.lst [])) s10 s11)) := by
    cases s9 with
    | un => rfl
    | val d => rfl
    | own io d => cases io with
      | true => cases m9
      | false => rfl
  obtain ⟨t10, t11, n10, n11, a3⟩ := loopG1_ok (b := b) (m := m) (p := p) (FD := FD) (s := s) (os := osG h m p) (s4 := s4) (s6 := .own false (.lst rs)) (s7 := .val (.int h)) hs (Nat.le_trans (osG_len hm hp.1) (by decide)) m10 m11
  refine ⟨.val (.lst ((osG h m p).map D.int)), .val (endsD ((osG h m p).map (endL s))), t10, t11, rfl, rfl, n10, n11, ?_⟩
  refine seq_nx a1 (seq_nx a2 (seq_nx a3 ?_))
  show fDrop (fAppend 6 (faCons (fTup (faCons (fVar 7) (faCons (fVar 9) faNil))) faNil)) (gE b m p FD s4 (.val (.lst ((restO s).map D.int))) (.own false (.lst rs)) (.val (.int h)) (.val (.lst ((osG h m p).map D.int))) (.val (endsD ((osG h m p).map (endL s)))) t10 t11) = _
  have fa : faCons (fTup (faCons (fVar 7) (faCons (fVar 9) faNil))) faNil (gE b m p FD s4 (.val (.lst ((restO s).map D.int))) (.own false (.lst rs)) (.val (.int h)) (.val (.lst ((osG h m p).map D.int))) (.val (endsD ((osG h m p).map (endL s)))) t10 t11) = some ([rowG (h, (osG h m p).map (endL s))], gE b m p FD s4 (.val (.lst ((restO s).map D.int))) (.own false (.lst rs)) (.val (.int h)) (.val (.lst ((osG h m p).map D.int))) (.val (endsD ((osG h m p).map (endL s)))) t10 t11) := rfl
  have e1 : lstAt 6 (gE b m p FD s4 (.val (.lst ((restO s).map D.int))) (.own false (.lst rs)) (.val (.int h)) (.val (.lst ((osG h m p).map D.int))) (.val (endsD ((osG h m p).map (endL s)))) t10 t11) = some (false, rs) := rfl
  unfold fDrop fAppend
  rw [e1]
  simp only [fa, e1]
  rw [if_pos (Nat.lt_of_lt_of_le hr (by decide))]
  rfl
abbrev loopG2 : FS := fFor (fiSeq (fCall [false, false] N__law_can (flCons (fLv 4) (flCons (fLv 1) flNil)))) (setE 7) bodyG2
theorem loopG2_ok {b m p : Int} {FD : D} {s : List Int} {s7 s8 s9 s10 s11 : Sl} (h : (b, m) ∈ sizes) (hp : 0 ≤ p ∧ p ≤ 5) (hs : s ∈ stS b m) (m7 : s7.mine = true) (m8 : s8.mine = true) (m9 : s9.mine = true) (m10 : s10.mine = true) (m11 : s11.mine = true) :
    ∃ t7 t8 t9 t10 t11, t7.mine = true ∧ t8.mine = true ∧ t9.mine = true ∧ t10.mine = true ∧ t11.mine = true ∧
      loopG2 (gE b m p FD (.val (tupI s)) (.val (.lst ((restO s).map D.int))) (.own false (.lst [])) s7 s8 s9 s10 s11) = some (.nx (gE b m p FD (.val (tupI s)) (.val (.lst ((restO s).map D.int))) (.own false (gmD (growG s m p))) t7 t8 t9 t10 t11)) := by
  have z := sz_of h
  obtain ⟨env', hl, t7, t8, t9, t10, t11, n7, n8, n9, n10, n11, rfl⟩ := loopD_inv (α := Int) (ι := D.int) (g := setE 7) (f := bodyG2)
    (fun i env => ∃ t7 t8 t9 t10 t11 : Sl, t7.mine = true ∧ t8.mine = true ∧ t9.mine = true ∧ t10.mine = true ∧ t11.mine = true ∧ env = gE b m p FD (.val (tupI s)) (.val (.lst ((restO s).map D.int))) (.own false (.lst (((throwsO s m).take i).map fun h => rowG (h, (osG h m p).map (endL s))))) t7 t8 t9 t10 t11) (xs := throwsO s m) (k := 0) (env := gE b m p FD (.val (tupI s)) (.val (.lst ((restO s).map D.int))) (.own false (.lst [])) s7 s8 s9 s10 s11) (fun i h' hx env he => by
      obtain ⟨t7, t8, t9, t10, t11, n7, n8, n9, n10, n11, rfl⟩ := he
      have hi := (List.getElem?_eq_some_iff.mp hx).1
      have hm' := throwsO_mem z.m0 (List.mem_of_getElem? hx)
      have tl := throwsO_len (s := s) ⟨z.m0, z.m15⟩
      rw [Nat.zero_add]
      obtain ⟨u8, u9, u10, u11, v8, v9, v10, v11, hb⟩ := bodyG2_ok (b := b) (m := m) (p := p) (FD := FD) (s := s) (s4 := .val (tupI s)) (h := h') (rs := ((throwsO s m).take i).map fun h => rowG (h, (osG h m p).map (endL s))) ⟨z.m0, z.m15⟩ hp hm' (Nat.le_trans (z.sl s hs) (by decide)) (by rw [List.length_map, List.length_take]; omega) n8 n9 n10 n11
      refine ⟨gE b m p FD (.val (tupI s)) (.val (.lst ((restO s).map D.int))) (.own false (.lst (((throwsO s m).take i).map fun h => rowG (h, (osG h m p).map (endL s))))) (.val (.int h')) t8 t9 t10 t11, setE_mine rfl n7, _, .inl hb, .val (.int h'), u8, u9, u10, u11, rfl, v8, v9, v10, v11, ?_⟩
      rw [DL.take_next hx, List.map_append]
      rfl) ⟨s7, s8, s9, s10, s11, m7, m8, m9, m10, m11, rfl⟩
  refine ⟨t7, t8, t9, t10, t11, n7, n8, n9, n10, n11, ?_⟩
  rw [Nat.zero_add, List.take_length] at hl
  have := forD_of (fi := fiSeq (fCall [false, false] N__law_can (flCons (fLv 4) (flCons (fLv 1) flNil)))) (env := gE b m p FD (.val (tupI s)) (.val (.lst ((restO s).map D.int))) (.own false (.lst [])) s7 s8 s9 s10 s11) (by
    unfold fiSeq
    rw [fCall_gives (by decide) rfl rfl (sp_law_can h hs)]
    rfl) hl
  unfold gmD growG
  rw [List.map_map]
  exact this
abbrev bodyG3 : FS := fSeq (fPar [5, 6] (fmVal (fComp (fiSeq (fVar 4)) (setE 12) (fTest (fOp2 gGt (fLv 12) (fLd (fC (.int 0))))) (fOp2 DL.gSub (fLv 12) (fLd (fC (.int 1)))) [12]) (fmOwn (fLst faNil) fmNil))) (fSeq loopG2 (fFrz 6 (fAsg (fVar 6) (fgSub 3 (fLv 4)))))
def GS (b m p : Int) : List (List Int × List GRow) := (stS b m).map fun s => (s, growG s m p)
theorem GS_keys (b m p : Int) : (GS b m p).map (·.1) = stS b m := by
  unfold GS
  rw [List.map_map]
  exact List.map_id _
theorem sp_law_game {b m p : Int} (h : (b, m) ∈ sizes) (hp : 0 ≤ p ∧ p ≤ 5) : Gives N__law_game [.int b, .int m, .int p] true (dF gmD (GS b m p)) := by
  have z := sz_of h
  have a0 : fSetO 3 (fC (.dT [])) [.val (.int b), .val (.int m), .val (.int p), .un, .un, .un, .un, .un, .un, .un, .un, .un, .un] = some (.nx (gE b m p (dF gmD []) .un .un .un .un .un .un .un .un)) := rfl
  obtain ⟨env', hl, t4, t5, t6, t7, t8, t9, t10, t11, n4, n5, n6, n7, n8, n9, n10, n11, rfl⟩ := loopD_inv (α := List Int) (ι := tupI) (g := setE 4) (f := bodyG3)
    (fun i env => ∃ t4 t5 t6 t7 t8 t9 t10 t11 : Sl, t4.mine = true ∧ t5.mine = true ∧ t6.mine = true ∧ t7.mine = true ∧ t8.mine = true ∧ t9.mine = true ∧ t10.mine = true ∧ t11.mine = true ∧ env = gE b m p (dF gmD (((stS b m).take i).map fun s => (s, growG s m p))) t4 t5 t6 t7 t8 t9 t10 t11) (xs := stS b m) (k := 0) (env := gE b m p (dF gmD []) .un .un .un .un .un .un .un .un) (fun i s hx env he => by
      obtain ⟨t4, t5, t6, t7, t8, t9, t10, t11, n4, n5, n6, n7, n8, n9, n10, n11, rfl⟩ := he
      rw [Nat.zero_add]
      have hs := List.mem_of_getElem? hx
      generalize hS : ((stS b m).take i).map (fun s => (s, growG s m p)) = S
      obtain ⟨u7, u8, u9, u10, u11, v7, v8, v9, v10, v11, hb⟩ := loopG2_ok (b := b) (m := m) (p := p) (FD := dF gmD S) (s := s) h hp hs n7 n8 n9 n10 n11
      have c : fComp (fiSeq (fVar 4)) (setE 12) (fTest (fOp2 gGt (fLv 12) (fLd (fC (.int 0))))) (fOp2 DL.gSub (fLv 12) (fLd (fC (.int 1)))) [12] (gE b m p (dF gmD S) (.val (tupI s)) t5 t6 t7 t8 t9 t10 t11) = some (.lst ((restO s).map D.int), gE b m p (dF gmD S) (.val (tupI s)) t5 t6 t7 t8 t9 t10 t11) := by
        have := fComp_on (ι := D.int) (xs := s) (fun b => decide (0 < b)) (fun b => .int (b - 1)) (fun x => (gE b m p (dF gmD S) (.val (tupI s)) t5 t6 t7 t8 t9 t10 t11).set 12 (.val (.int x))) (fi := fiSeq (fVar 4)) (g := setE 12) (t := fTest (fOp2 gGt (fLv 12) (fLd (fC (.int 0))))) (f := fOp2 DL.gSub (fLv 12) (fLd (fC (.int 1)))) (vs := [12]) (env := gE b m p (dF gmD S) (.val (tupI s)) t5 t6 t7 t8 t9 t10 t11) rfl (Nat.le_trans (z.sl s hs) (by decide)) rfl rfl rfl fun x _ => ⟨rfl, rfl, rfl, rfl, fun _ => rfl⟩
        rw [this]
        unfold restO
        rw [List.map_map]
        rfl
      have a1 : fPar [5, 6] (fmVal (fComp (fiSeq (fVar 4)) (setE 12) (fTest (fOp2 gGt (fLv 12) (fLd (fC (.int 0))))) (fOp2 DL.gSub (fLv 12) (fLd (fC (.int 1)))) [12]) (fmOwn (fLst faNil) fmNil)) (gE b m p (dF gmD S) (.val (tupI s)) t5 t6 t7 t8 t9 t10 t11) = some (.nx (gE b m p (dF gmD S) (.val (tupI s)) (.val (.lst ((restO s).map D.int))) (.own false (.lst [])) t7 t8 t9 t10 t11)) := by
        unfold fPar fmVal
        simp only [c]
        cases t5 with
        | un => cases t6 with
          | un => rfl
          | val d => rfl
          | own io d => cases io with
            | true => cases n6
            | false => rfl
        | val d5 => cases t6 with
          | un => rfl
          | val d => rfl
          | own io d => cases io with
            | true => cases n6
            | false => rfl
        | own io5 d5 => cases io5 with
          | true => cases n5
          | false => cases t6 with
            | un => rfl
            | val d => rfl
            | own io d => cases io with
              | true => cases n6
              | false => rfl
      refine ⟨gE b m p (dF gmD S) (.val (tupI s)) t5 t6 t7 t8 t9 t10 t11, setE_mine rfl n4, gE b m p (dF gmD (S ++ [(s, growG s m p)])) (.val (tupI s)) (.val (.lst ((restO s).map D.int))) (.val (gmD (growG s m p))) u7 u8 u9 u10 u11, .inl (seq_nx a1 (seq_nx hb ?_)), .val (tupI s), .val (.lst ((restO s).map D.int)), .val (gmD (growG s m p)), u7, u8, u9, u10, u11, rfl, rfl, rfl, v7, v8, v9, v10, v11, ?_⟩
      · show fAsg (fVar 6) (fgSub 3 (fLv 4)) (gE b m p (dF gmD S) (.val (tupI s)) (.val (.lst ((restO s).map D.int))) (.val (gmD (growG s m p))) u7 u8 u9 u10 u11) = _
        refine asg_of (d := gmD (growG s m p)) (e := gE b m p (dF gmD S) (.val (tupI s)) (.val (.lst ((restO s).map D.int))) (.val (gmD (growG s m p))) u7 u8 u9 u10 u11) rfl ?_
        have nk : s ∉ S.map (·.1) := by
          rw [← hS, List.map_map, show ((fun x : List Int × List GRow => x.1) ∘ fun s => (s, growG s m p)) = id from rfl, List.map_id]
          exact take_not z.nd hx
        have ln : S.length < mx := by
          rw [← hS, List.length_map, List.length_take]
          have : (60 : Nat) < mx := by decide
          have := z.len
          omega
        have hput : putD (dF gmD S) (tupI s) (gmD (growG s m p)) = some (dF gmD (S ++ [(s, growG s m p)])) := putD_new gmD _ nk ln
        show (putD (dF gmD S) (tupI s) (gmD (growG s m p))).map _ = _
        rw [hput]
        rfl
      · rw [DL.take_next hx, List.map_append, hS]
        rfl) ⟨.un, .un, .un, .un, .un, .un, .un, .un, rfl, rfl, rfl, rfl, rfl, rfl, rfl, rfl, rfl⟩
  rw [Nat.zero_add, List.take_length] at hl
  have hfor := forD_of (fi := fiSeq (fCall [false, false] N__law_states (flCons (fLv 0) (flCons (fLv 1) flNil)))) (env := gE b m p (dF gmD []) .un .un .un .un .un .un .un .un) (by
    unfold fiSeq
    rw [fCall_gives (by decide) rfl rfl (sp_law_states h)]
    rfl) hl
  refine gives_run (e := (gE b m p (dF gmD (GS b m p)) t4 t5 t6 t7 t8 t9 t10 t11).set 3 .un) rfl ?_
  show f__law_game N__law_can N__law_states [.val (.int b), .val (.int m), .val (.int p), .un, .un, .un, .un, .un, .un, .un, .un, .un, .un] = _
  unfold f__law_game
  exact seq_nx a0 (seq_nx hfor rfl)
/-- the law's rows are the program's -/
theorem growG_is {b m p : Int} {s : List Int} (h : (b, m) ∈ sizes) (hs : s ∈ stS b m) : growG s m p = (throwsO s m).map fun h => (h, endsO s h m p) := by
  have z := sz_of h
  unfold growG
  refine List.map_congr_left fun o ho => ?_
  have hm := throwsO_mem z.m0 ho
  have ck := chkEnd_all _ h
  unfold chkEnd at ck
  rw [List.all_eq_true] at ck
  have ck := ck s hs
  rw [List.all_eq_true] at ck
  have eq : ∀ k : Int, 0 ≤ k → k ≤ m → (decide (k = 0) = !(s.any fun n => n == 0)) → endL s k = behindO s k := fun k k0 km hk => by
    have c := ck k (mem_rngI.mpr ⟨k0, by show k < m + 1; omega⟩)
    rw [hk] at c
    simpa using c
  unfold throwsO at ho
  split at ho
  · rename_i h0
    rw [List.mem_singleton] at ho
    subst ho
    show (0, _) = (0, _)
    congr 1
    unfold osG endsO
    rw [if_pos rfl, if_pos rfl]
    show [endL s 0] = [behindO s 0]
    rw [eq 0 (by omega) z.m0 (by rw [h0]; rfl)]
  · rename_i h0
    have h0' : s.any (fun n => n == 0) = true := by simpa using h0
    have o1 := (mem_rngI.mp (List.mem_filter.mp ho).1)
    congr 1
    unfold osG endsO
    rw [if_neg (by omega), if_neg (by omega)]
    refine List.map_congr_left fun k hk => ?_
    have hk := mem_rngI.mp hk
    have : (1 : Int) ≤ mxI 1 (o - p) := by unfold mxI; split <;> omega
    have : mnI m (o + p) ≤ m := by unfold mnI; split <;> omega
    exact eq k (by omega) (by omega) (by rw [h0', decide_eq_false (by omega)]; rfl)
end Law
namespace Law
open PySem L2 DL
abbrev AT := List (List Int × Int)
abbrev GT := List (List Int × List GRow)
def canA (A : AT) (es : List (Option (List Int))) : Bool := es.any fun e => match e with
  | none => true
  | some t => (lk A t).isSome
def isLaterA (A : AT) (x : List Int × List GRow) : Bool := !(lk A x.1).isSome && x.2.all fun r => canA A r.2
def laterA (G : GT) (A : AT) : List (List Int) := (G.filter (isLaterA A)).map (·.1)
def lapA (k : Int) (L : List (List Int)) (A : AT) : AT := A ++ L.map fun s => (s, k)
def whileA (later : AT → List (List Int)) : Nat → Int → AT → Option AT
  | 0, _, _ => none
  | n + 1, k, A => if later A = [] then some A else whileA later n (k + 1) (lapA (k + 1) (later A) A)
structure GOk (G : GT) : Prop where
  nd : (G.map (·.1)).Nodup
  len : G.length ≤ 60
  rows : ∀ x ∈ G, x.2.length ≤ 1000 ∧ ∀ r ∈ x.2, r.2.length ≤ 1000
theorem GS_ok {b m p : Int} (h : (b, m) ∈ sizes) (hp : 0 ≤ p ∧ p ≤ 5) : GOk (GS b m p) := by
  have z := sz_of h
  refine ⟨by rw [GS_keys]; exact z.nd, by unfold GS; rw [List.length_map]; exact z.len, fun x hx => ?_⟩
  obtain ⟨s, hs, rfl⟩ := List.mem_map.mp hx
  refine ⟨?_, fun r hr => ?_⟩
  · show (growG s m p).length ≤ 1000
    unfold growG
    rw [List.length_map]
    have := throwsO_len (s := s) ⟨z.m0, z.m15⟩
    omega
  · obtain ⟨o, ho, rfl⟩ := List.mem_map.mp hr
    show ((osG o m p).map (endL s)).length ≤ 1000
    rw [List.length_map]
    have := osG_len (h := o) (p := p) ⟨z.m0, z.m15⟩ hp.1
    omega
theorem later_sub {α β : Type} {G : List (List Int × α)} {P : List Int × α → Bool} (nd : (G.map (·.1)).Nodup) : ((G.filter P).map (·.1)).Nodup := nd.sublist (List.filter_sublist.map _)
theorem lk_get {α : Type} {G : List (List Int × α)} {x : List Int × α} (nd : (G.map (·.1)).Nodup) (h : x ∈ G) : lk G x.1 = some x.2 := by
  induction G with
  | nil => cases h
  | cons y G ih =>
    rw [lk_cons]
    rw [List.map_cons, List.nodup_cons] at nd
    rcases List.mem_cons.mp h with e | h
    · rw [← e, if_pos rfl]
    · rw [if_neg (fun z : y.1 = x.1 => nd.1 (by rw [z]; exact List.mem_map.mpr ⟨x, h, rfl⟩))]
      exact ih nd.2 h
/-! ### lost, by the law's own game -/
def aE (G : GT) (A : AT) (beats : Int) (mv : Bool) (s4 s5 s6 : Sl) : En := [.val (dF gmD G), .own false (dF D.int A), .val (.int beats), .val (.bl mv), s4, s5, s6, .un, .un, .un]
abbrev anyA : FE := fB gAny (flCons (fLd (fComp (fiSeq (fVar 8)) (setE 9) fYes (feOr (fOp2 gIs (fLv 9) (fLd (fC .non))) (fOp2 gIn (fLv 9) (fLv 1))) [9])) flNil)
abbrev forcedA : FE := fComp (fiSeq (fOp2 gIx (fLv 0) (fLv 5))) (fgTup (fgCons (setE 7) (fgCons (setE 8) fgNil)) 2) fYes anyA [7, 8]
theorem anyA_ok {env : En} {A : AT} {es : List (Option (List Int))} (h8 : env[8]? = some (.val (endsD es))) (h1 : env[1]? = some (.own false (dF D.int A))) (h9 : env[9]? = some .un) (hl : es.length ≤ 1000) : anyA env = some (.bl (canA A es), env) := by
  have w9 : wipeE env [9] = env := by
    show env.set 9 .un = env
    obtain ⟨hi, e⟩ := List.getElem?_eq_some_iff.mp h9
    exact List.ext_getElem? fun i => by
      by_cases e2 : i = 9
      · subst e2; rw [List.getElem?_set_self hi, h9]
      · rw [List.getElem?_set_ne (Ne.symm e2)]
  have m9 : mineAll env [9] = true := by
    show ((match env[9]? with | some s => s.mine | none => false) && true) = true
    rw [h9]
    rfl
  have hi := (List.getElem?_eq_some_iff.mp h9).1
  have st : ∀ d, (env.set 9 (.val d))[9]? = some (.val d) := fun d => by rw [List.getElem?_set_self hi]
  have st1 : ∀ d, (env.set 9 (.val d))[1]? = some (.own false (dF D.int A)) := fun d => by rw [List.getElem?_set_ne (by decide)]; exact h1
  have ss : ∀ d, (env.set 9 (.val d)).set 9 .un = env := fun d => by rw [List.set_set]; exact w9
  have c := fComp_all (ι := oD) (xs := es) (fun e => .bl (match e with
      | none => true
      | some t => (lk A t).isSome)) (fun e => env.set 9 (.val (oD e))) (fi := fiSeq (fVar 8)) (g := setE 9) (f := feOr (fOp2 gIs (fLv 9) (fLd (fC .non))) (fOp2 gIn (fLv 9) (fLv 1))) (vs := [9]) (env := env) (env1 := env) (env2 := env) (by
      unfold fiSeq fVar
      simp only [h8]
      rfl) (Nat.le_trans hl (by decide)) m9 (by rw [w9]; exact m9) (by
        rw [w9]
        show env.set 9 (keepS env[9]?) = env
        rw [h9]
        exact w9) fun e he => ⟨by rw [w9]; exact setE_mine h9 rfl, by
          show ((match (env.set 9 (.val (oD e)))[9]? with | some s => s.mine | none => false) && true) = true
          rw [st]
          rfl, by rw [w9]; exact ss _, by
          have v9 : res (env.set 9 (.val (oD e))) (.inl 9) = some (oD e) := by
            show (match (env.set 9 (.val (oD e)))[9]? with
              | some (.val d) => some d
              | some (.own _ d) => some d
              | _ => none) = _
            rw [st]
          have v1 : res (env.set 9 (.val (oD e))) (.inl 1) = some (dF D.int A) := by
            show (match (env.set 9 (.val (oD e)))[1]? with
              | some (.val d) => some d
              | some (.own _ d) => some d
              | _ => none) = _
            rw [st1]
          have l9 : fLv 9 (env.set 9 (.val (oD e))) = some (.inl 9, env.set 9 (.val (oD e))) := by
            unfold fLv
            rw [st]
          have l1 : fLv 1 (env.set 9 (.val (oD e))) = some (.inl 1, env.set 9 (.val (oD e))) := by
            unfold fLv
            rw [st1]
          cases e with
          | none =>
            have o1 : fOp2 gIs (fLv 9) (fLd (fC .non)) (env.set 9 (.val (oD none))) = some (.bl true, env.set 9 (.val (oD none))) := op2_of l9 rfl v9 rfl rfl
            unfold feOr
            rw [o1]
          | some t =>
            have o1 : fOp2 gIs (fLv 9) (fLd (fC .non)) (env.set 9 (.val (oD (some t)))) = some (.bl false, env.set 9 (.val (oD (some t)))) := op2_of l9 rfl v9 rfl rfl
            have o2 : fOp2 gIn (fLv 9) (fLv 1) (env.set 9 (.val (oD (some t)))) = some (.bl (lk A t).isSome, env.set 9 (.val (oD (some t)))) := op2_of l9 l1 v9 v1 (by
              show gIn (tupI t) (dF D.int A) = _
              unfold gIn
              rw [inB_F]
              rfl)
            unfold feOr
            rw [o1]
            exact o2⟩
  refine fB1_of (fLd_of c) rfl ?_
  rw [show (es.map fun e => D.bl (match e with
      | none => true
      | some t => (lk A t).isSome)) = (es.map fun e => (match e with
      | none => true
      | some t => (lk A t).isSome)).map D.bl by rw [List.map_map]; rfl, any_bls, List.any_map]
  rfl
theorem forcedA_ok {G : GT} {A : AT} {beats : Int} {mv : Bool} {s4 s6 : Sl} {x : List Int × List GRow} (ok : GOk G) (hx : x ∈ G) : forcedA (aE G A beats mv s4 (.val (tupI x.1)) s6) = some (.lst (x.2.map fun r => .bl (canA A r.2)), aE G A beats mv s4 (.val (tupI x.1)) s6) := by
  obtain ⟨hl, he⟩ := ok.rows x hx
  have i1 : fOp2 gIx (fLv 0) (fLv 5) (aE G A beats mv s4 (.val (tupI x.1)) s6) = some (gmD x.2, aE G A beats mv s4 (.val (tupI x.1)) s6) := op2_of rfl rfl rfl rfl (by rw [ix_F, lk_get ok.nd hx]; rfl)
  exact fComp_all (ι := rowG) (xs := x.2) (fun r => .bl (canA A r.2)) (fun r => ((aE G A beats mv s4 (.val (tupI x.1)) s6).set 7 (.val (.int r.1))).set 8 (.val (endsD r.2))) (by
    unfold fiSeq
    rw [i1]
    rfl) (Nat.le_trans hl (by decide)) rfl rfl rfl fun r hr => ⟨rfl, rfl, rfl, anyA_ok rfl rfl rfl (he r hr)⟩
abbrev loopA1 : FS := fFor (fiKeysV 0) (setE 5)
    (fIf (fTest (fOp2 gNotIn (fLv 5) (fLv 1)))
    (fSeq (fSet 6 forcedA)
    (fIf (fTest (fB gAll (flCons (fLv 6) flNil)))
    (fDrop (fAppend 4 (faCons (fVar 5) faNil)))
    fSkip))
    fSkip)
theorem loopA1_ok {G : GT} {A : AT} {beats : Int} {mv : Bool} {s5 s6 : Sl} (ok : GOk G) (m5 : s5.mine = true) (m6 : s6.mine = true) :
    ∃ t5 t6, t5.mine = true ∧ t6.mine = true ∧ loopA1 (aE G A beats mv (.own false (.lst [])) s5 s6) = some (.nx (aE G A beats mv (.own false (.lst ((laterA G A).map tupI))) t5 t6)) := by
  have L := loopD_foldI (α := List Int × List GRow) (S := List (List Int)) (ι := fun x => tupI x.1) (g := setE 5) (f := fIf (fTest (fOp2 gNotIn (fLv 5) (fLv 1)))
    (fSeq (fSet 6 forcedA)
    (fIf (fTest (fB gAll (flCons (fLv 6) flNil)))
    (fDrop (fAppend 4 (faCons (fVar 5) faNil)))
    fSkip))
    fSkip)
    (fun L x => if isLaterA A x then L ++ [x.1] else L) (fun i L env => L.length ≤ i ∧ ∃ t5 t6 : Sl, t5.mine = true ∧ t6.mine = true ∧ env = aE G A beats mv (.own false (.lst (L.map tupI))) t5 t6) (xs := G) (k := 0) (s := []) (env := aE G A beats mv (.own false (.lst [])) s5 s6) (fun i x hx L env he => ?_) ⟨Nat.le_refl _, s5, s6, m5, m6, rfl⟩
  · obtain ⟨env', h1, _, t8, t9, n8, n9, rfl⟩ := L
    refine ⟨t8, t9, n8, n9, ?_⟩
    rw [foldl_filter, List.nil_append] at h1
    exact forD_of (keys_F gmD 0 rfl) h1
  · obtain ⟨hl, t8, t9, n8, n9, rfl⟩ := he
    have hx' : x ∈ G := List.mem_of_getElem? hx
    have hi := (List.getElem?_eq_some_iff.mp hx).1
    refine ⟨aE G A beats mv (.own false (.lst (L.map tupI))) (.val (tupI x.1)) t9, setE_mine rfl n8, ?_⟩
    have t1 : fTest (fOp2 gNotIn (fLv 5) (fLv 1)) (aE G A beats mv (.own false (.lst (L.map tupI))) (.val (tupI x.1)) t9) = some (!(lk A x.1).isSome, aE G A beats mv (.own false (.lst (L.map tupI))) (.val (tupI x.1)) t9) := test_op2 rfl rfl rfl rfl (by
      unfold gNotIn
      rw [inB_F]
      rfl)
    unfold isLaterA
    cases q : (lk A x.1).isSome with
    | true =>
      rw [q] at t1
      refine ⟨_, .inl (if_ff t1 rfl), ?_⟩
      rw [if_neg (by simp)]
      exact ⟨by omega, _, _, rfl, n9, rfl⟩
    | false =>
      rw [q] at t1
      have a6 : fSet 6 forcedA (aE G A beats mv (.own false (.lst (L.map tupI))) (.val (tupI x.1)) t9) = some (.nx (aE G A beats mv (.own false (.lst (L.map tupI))) (.val (tupI x.1)) (.val (.lst (x.2.map fun r => .bl (canA A r.2)))))) := set_of (forcedA_ok ok hx') (setE_mine rfl n9)
      have t2 : fTest (fB gAll (flCons (fLv 6) flNil)) (aE G A beats mv (.own false (.lst (L.map tupI))) (.val (tupI x.1)) (.val (.lst (x.2.map fun r => .bl (canA A r.2))))) = some (x.2.all (fun r => canA A r.2), aE G A beats mv (.own false (.lst (L.map tupI))) (.val (tupI x.1)) (.val (.lst (x.2.map fun r => .bl (canA A r.2))))) := by
        refine test_of' (fB1_of rfl rfl ?_)
        rw [show (x.2.map fun r => D.bl (canA A r.2)) = (x.2.map fun r => canA A r.2).map D.bl by rw [List.map_map]; rfl, all_bls, List.all_map]
        rfl
      cases q2 : x.2.all (fun r => canA A r.2) with
      | false =>
        rw [q2] at t2
        refine ⟨_, .inl (if_tt t1 (seq_nx a6 (if_ff t2 rfl))), ?_⟩
        rw [if_neg (by simp)]
        exact ⟨by omega, _, _, rfl, rfl, rfl⟩
      | true =>
        rw [q2] at t2
        refine ⟨aE G A beats mv (.own false (.lst ((L ++ [x.1]).map tupI))) (.val (tupI x.1)) (.val (.lst (x.2.map fun r => .bl (canA A r.2)))), .inl (if_tt t1 (seq_nx a6 (if_tt t2 ?_))), ?_⟩
        · have e1 : lstAt 4 (aE G A beats mv (.own false (.lst (L.map tupI))) (.val (tupI x.1)) (.val (.lst (x.2.map fun r => .bl (canA A r.2))))) = some (false, L.map tupI) := rfl
          have e2 : faCons (fVar 5) faNil (aE G A beats mv (.own false (.lst (L.map tupI))) (.val (tupI x.1)) (.val (.lst (x.2.map fun r => .bl (canA A r.2))))) = some ([tupI x.1], aE G A beats mv (.own false (.lst (L.map tupI))) (.val (tupI x.1)) (.val (.lst (x.2.map fun r => .bl (canA A r.2))))) := rfl
          unfold fDrop fAppend
          rw [e1]
          simp only [e2, e1]
          rw [if_pos (by rw [List.length_map]; have := ok.len; exact Nat.lt_of_lt_of_le (by omega) (show 1001 ≤ mx by decide)), List.map_append]
          rfl
        · rw [if_pos (by simp)]
          exact ⟨by rw [List.length_append]; simp; omega, _, _, rfl, rfl, rfl⟩
theorem ne_nil (L : List (List Int)) : gNe (.lst (L.map tupI)) (.lst []) = some (.bl (!decide (L = []))) := by
  have h1 := (flat_lst (k := 1) (ds := L.map tupI) fun d hd => by
    obtain ⟨s, _, rfl⟩ := List.mem_map.mp hd
    exact flat_tupI s).shaped (by decide)
  have h2 : SeqAt.shaped (py (.lst [])) = true := rfl
  unfold gNe gEqB
  simp only [h1, h2, Bool.and_self, if_true, Option.map_some]
  cases L with
  | nil => rfl
  | cons s L => rfl
abbrev loopA2 : FS := fFrz 4 (fFor (fiSeq (fVar 4)) (setE 5) (fAsg (fVar 2) (fgSub 1 (fLv 5))))
theorem loopA2_ok {G : GT} {A : AT} {beats : Int} {mv : Bool} {L : List (List Int)} {s5 s6 : Sl} (hL : L.Nodup) (hn : ∀ s ∈ L, s ∉ A.map (·.1)) (hl : A.length + L.length ≤ 900000) (m5 : s5.mine = true) :
    ∃ t5, t5.mine = true ∧ loopA2 (aE G A beats mv (.own false (.lst (L.map tupI))) s5 s6) = some (.nx (aE G (lapA beats L A) beats mv (.val (.lst (L.map tupI))) t5 s6)) := by
  obtain ⟨env', h1, t5, n5, rfl⟩ := loopD_inv (α := List Int) (ι := tupI) (g := setE 5) (f := fAsg (fVar 2) (fgSub 1 (fLv 5)))
    (fun i env => ∃ t5 : Sl, t5.mine = true ∧ env = aE G (lapA beats (L.take i) A) beats mv (.val (.lst (L.map tupI))) t5 s6) (xs := L) (k := 0) (env := aE G (lapA beats [] A) beats mv (.val (.lst (L.map tupI))) s5 s6) (fun i s hx env he => by
      obtain ⟨t5, n5, rfl⟩ := he
      rw [Nat.zero_add]
      refine ⟨aE G (lapA beats (L.take i) A) beats mv (.val (.lst (L.map tupI))) (.val (tupI s)) s6, setE_mine rfl n5, aE G (lapA beats (L.take (i + 1)) A) beats mv (.val (.lst (L.map tupI))) (.val (tupI s)) s6, .inl (asg_of (d := .int beats) (e := aE G (lapA beats (L.take i) A) beats mv (.val (.lst (L.map tupI))) (.val (tupI s)) s6) rfl ?_), _, rfl, rfl⟩
      have nk : s ∉ (lapA beats (L.take i) A).map (·.1) := by
        unfold lapA
        rw [List.map_append, List.mem_append, List.map_map, show ((fun x : List Int × Int => x.1) ∘ fun s => (s, beats)) = id from rfl, List.map_id]
        exact fun z => z.elim (hn s (List.mem_of_getElem? hx)) (take_not hL hx)
      have ln : (lapA beats (L.take i) A).length < mx := by
        unfold lapA
        rw [List.length_append, List.length_map, List.length_take]
        have : (900001 : Nat) ≤ mx := by decide
        omega
      have hput : putD (dF D.int (lapA beats (L.take i) A)) (tupI s) (.int beats) = some (dF D.int (lapA beats (L.take i) A ++ [(s, beats)])) := putD_new D.int beats nk ln
      have e : lapA beats (L.take (i + 1)) A = lapA beats (L.take i) A ++ [(s, beats)] := by
        unfold lapA
        rw [DL.take_next hx, List.map_append, List.append_assoc]
        rfl
      rw [e]
      show (putD (dF D.int (lapA beats (L.take i) A)) (tupI s) (.int beats)).map _ = _
      rw [hput]
      rfl) ⟨s5, m5, rfl⟩
  refine ⟨t5, n5, ?_⟩
  rw [Nat.zero_add, List.take_length] at h1
  have e : lapA beats [] A = A := List.append_nil A
  rw [e] at h1
  show fFor (fiSeq (fVar 4)) (setE 5) _ (aE G A beats mv (.val (.lst (L.map tupI))) s5 s6) = _
  exact forD_of rfl h1
abbrev bodyA : FS := fSeq (fPar [2, 4] (fmVal (fOp2 DL.gAdd (fLv 2) (fLd (fC (.int 1)))) (fmOwn (fLst faNil) fmNil))) (fSeq loopA1 (fSeq loopA2 (fSet 3 (fOp2 gNe (fLv 4) (fLd (fLst faNil))))))
theorem laterA_len {G : GT} {A : AT} (ok : GOk G) : (laterA G A).length ≤ 60 := by
  unfold laterA
  rw [List.length_map]
  exact Nat.le_trans (List.length_filter_le _ _) ok.len
theorem laterA_new {G : GT} {A : AT} : ∀ s ∈ laterA G A, s ∉ A.map (·.1) := fun s h z => by
  obtain ⟨x, hx, rfl⟩ := List.mem_map.mp h
  have := (List.mem_filter.mp hx).2
  unfold isLaterA at this
  rw [lk_isSome.mpr z] at this
  cases this
theorem bodyA_ok {G : GT} {A : AT} {beats : Int} {s4 s5 s6 : Sl} (ok : GOk G) (hl : A.length ≤ 800000) (m4 : s4.mine = true) (m5 : s5.mine = true) (m6 : s6.mine = true) :
    ∃ t4 t5 t6, t4.mine = true ∧ t5.mine = true ∧ t6.mine = true ∧ bodyA (aE G A beats true s4 s5 s6) = some (.nx (aE G (lapA (beats + 1) (laterA G A) A) (beats + 1) (!decide (laterA G A = [])) t4 t5 t6)) := by
  have p1 : fPar [2, 4] (fmVal (fOp2 DL.gAdd (fLv 2) (fLd (fC (.int 1)))) (fmOwn (fLst faNil) fmNil)) (aE G A beats true s4 s5 s6) = some (.nx (aE G A (beats + 1) true (.own false (.lst [])) s5 s6)) := by
    cases s4 with
    | un => rfl
    | val d => rfl
    | own io d => cases io with
      | true => cases m4
      | false => rfl
  obtain ⟨t5, t6, n5, n6, l1⟩ := loopA1_ok (A := A) (beats := beats + 1) (mv := true) ok m5 m6
  obtain ⟨u5, w5, l2⟩ := loopA2_ok (G := G) (A := A) (beats := beats + 1) (mv := true) (L := laterA G A) (s6 := t6) (later_sub (β := Nat) ok.nd) laterA_new (by have := laterA_len (A := A) ok; omega) n5
  refine ⟨.val (.lst ((laterA G A).map tupI)), u5, t6, rfl, w5, n6, seq_nx p1 (seq_nx l1 (seq_nx l2 (set_of (d := .bl (!decide (laterA G A = []))) (e := aE G (lapA (beats + 1) (laterA G A) A) (beats + 1) true (.val (.lst ((laterA G A).map tupI))) u5 t6) ?_ rfl)))⟩
  exact op2_of rfl rfl rfl rfl (ne_nil _)
theorem whileA_ok {G : GT} (ok : GOk G) : ∀ (n : Nat) {beats : Int} {A A' : AT} {s4 s5 s6 : Sl}, A.length + 60 * n ≤ 800000 → s4.mine = true → s5.mine = true → s6.mine = true → whileA (laterA G) n beats A = some A' →
    ∃ b' t4 t5 t6, fWhile (n + 1) (fTest (fVar 3)) bodyA (aE G A beats true s4 s5 s6) = some (.nx (aE G A' b' false t4 t5 t6))
  | 0, _, _, _, _, _, _, _, _, _, _, h => by cases h
  | n + 1, beats, A, A', s4, s5, s6, hl, m4, m5, m6, h => by
    obtain ⟨t4, t5, t6, n4, n5, n6, hb⟩ := bodyA_ok (A := A) (beats := beats) ok (by omega) m4 m5 m6
    unfold whileA at h
    by_cases hL : laterA G A = []
    · rw [if_pos hL] at h
      cases h
      rw [hL, show lapA (beats + 1) [] A = A from List.append_nil A] at hb
      exact ⟨beats + 1, t4, t5, t6, while_go rfl hb (while_end rfl)⟩
    · rw [if_neg hL] at h
      rw [decide_eq_false hL] at hb
      obtain ⟨b', u4, u5, u6, hw⟩ := whileA_ok ok n (by
        unfold lapA
        rw [List.length_append, List.length_map]
        have := laterA_len (A := A) ok
        omega) n4 n5 n6 h
      exact ⟨b', u4, u5, u6, while_go rfl hb hw⟩
theorem sp_law_clashes {G : GT} {A : AT} (ok : GOk G) (hA : whileA (laterA G) 199 0 [] = some A) : Gives N__law_clashes [dF gmD G] true (dF D.int A) := by
  have p0 : fPar [1, 2, 3] (fmOwn (fC (.dT [])) (fmVal (fC (.int 0)) (fmVal (fC (.bl true)) fmNil))) [.val (dF gmD G), .un, .un, .un, .un, .un, .un, .un, .un, .un] = some (.nx (aE G [] 0 true .un .un .un)) := rfl
  obtain ⟨b', t4, t5, t6, hw⟩ := whileA_ok ok 199 (beats := 0) (A := []) (s4 := .un) (s5 := .un) (s6 := .un) (by decide) rfl rfl rfl hA
  refine gives_run (e := (aE G A b' false t4 t5 t6).set 1 .un) rfl ?_
  show f__law_clashes [.val (dF gmD G), .un, .un, .un, .un, .un, .un, .un, .un, .un] = _
  unfold f__law_clashes
  exact seq_nx p0 (seq_nx hw rfl)
end Law
namespace Law
open PySem L2 DL
/-! ### the law's lost states are the program's -/
def Rel (A : AT) (F : FT') : Prop := ∀ s, lk A s = (lk F s).join
theorem rel_can {A : AT} {F : FT'} (r : Rel A F) (es : List (Option (List Int))) : canA A es = canC F es := by
  unfold canA canC
  congr 1
  funext e
  cases e with
  | none => rfl
  | some s =>
    simp only [r s]
    cases lk F s with
    | none => rfl
    | some v => cases v <;> rfl
theorem filter_keys {α : Type} (P : List Int × α → Bool) (f : List Int → α) : ∀ L : List (List Int), (((L.map fun s => (s, f s)).filter P).map (·.1)) = L.filter fun s => P (s, f s)
  | [] => rfl
  | s :: L => by
    rw [List.map_cons, List.filter_cons, List.filter_cons]
    split
    · rw [List.map_cons, filter_keys P f L]
    · rw [filter_keys P f L]
theorem grow_all {b m p : Int} {s : List Int} (h : (b, m) ∈ sizes) (hs : s ∈ stS b m) (P : List (Option (List Int)) → Bool) : (growG s m p).all (fun r => P r.2) = (rowsO s m p).all P := by
  rw [growG_is h hs]
  unfold rowsO
  rw [List.all_map, List.all_map]
  rfl
theorem rel_later {b m p : Int} {A : AT} {F : FT'} (h : (b, m) ∈ sizes) (hk : F.map (·.1) = stS b m) (r : Rel A F) : laterA (GS b m p) A = laterC (RS b m p) F := by
  unfold laterA laterC GS RS
  rw [filter_keys, filter_keys]
  refine List.filter_congr fun s hs => ?_
  unfold isLaterA isLater
  simp only
  rw [grow_all h hs (canA A), show canA A = canC F from funext (rel_can r), r s]
  obtain ⟨v, hv⟩ := Option.isSome_iff_exists.mp (lk_isSome.mpr (show s ∈ F.map (·.1) by rw [hk]; exact hs))
  rw [hv]
  cases v <;> rfl
theorem lk_app {α : Type} {s : List Int} : ∀ {A B : List (List Int × α)}, lk (A ++ B) s = (lk A s).or (lk B s)
  | [], B => rfl
  | p :: A, B => by
    rw [List.cons_append, lk_cons, lk_cons, lk_app]
    by_cases e : p.1 = s
    · rw [if_pos e, if_pos e]; rfl
    · rw [if_neg e, if_neg e]
theorem lk_const {k : Int} {s : List Int} : ∀ {L : List (List Int)}, lk (L.map fun s => (s, k)) s = if s ∈ L then some k else none
  | [] => rfl
  | t :: L => by
    rw [List.map_cons, lk_cons, lk_const]
    by_cases e : t = s
    · rw [if_pos e, if_pos (by rw [e]; exact List.mem_cons_self)]
    · rw [if_neg e]
      by_cases e2 : s ∈ L
      · rw [if_pos e2, if_pos (List.mem_cons_of_mem _ e2)]
      · rw [if_neg e2, if_neg fun z => (List.mem_cons.mp z).elim (fun z => e z.symm) e2]
theorem rel_lap {A : AT} {F : FT'} {L : List (List Int)} {k : Int} (r : Rel A F) (hn : ∀ s ∈ L, isNo F s = true) : Rel (lapA k L A) (lapF k L F) := fun s => by
  unfold lapA
  rw [lk_app, lk_lapF, lk_const, r s]
  by_cases hs : s ∈ L
  · have := hn s hs
    unfold isNo at this
    rw [if_pos hs, if_pos hs]
    cases q : lk F s with
    | none => rw [q] at this; cases this
    | some v =>
      rw [q] at this
      cases v with
      | none => rfl
      | some k => cases this
  · rw [if_neg hs, if_neg hs]
    cases q : (lk F s).join <;> rfl
theorem rel_while {laterX : AT → List (List Int)} {laterF : FT' → List (List Int)} {Ks : List (List Int)} (hl : ∀ A F, F.map (·.1) = Ks → Rel A F → laterX A = laterF F) (hn : ∀ F, ∀ s ∈ laterF F, isNo F s = true) :
    ∀ (n : Nat) {k : Int} {A : AT} {F F' : FT'}, F.map (·.1) = Ks → Rel A F → whileG laterF n k F = some F' → ∃ A', whileA laterX n k A = some A' ∧ Rel A' F'
  | 0, _, _, _, _, _, _, h => by cases h
  | n + 1, k, A, F, F', hk, r, h => by
    unfold whileG at h
    unfold whileA
    rw [hl A F hk r]
    by_cases hL : laterF F = []
    · rw [if_pos hL] at h ⊢
      cases h
      exact ⟨A, rfl, r⟩
    · rw [if_neg hL] at h ⊢
      exact rel_while hl hn n (by rw [lapF_keys]; exact hk) (rel_lap r (hn F)) h
theorem loss_rel {b m p : Int} {F : FT'} (h : (b, m) ∈ sizes) (hF : lvls b m p = some F) : ∃ A, whileA (laterA (GS b m p)) 199 0 [] = some A ∧ Rel A F := by
  unfold lvls at hF
  rw [whileC_G] at hF
  refine rel_while (Ks := stS b m) (fun A F hk r => rel_later h hk r) (fun F s => later_no) 199 (by rw [F0_keys, RS_keys]) (fun s => ?_) hF
  unfold F0 RS
  rw [List.map_map]
  show none = _
  cases q : lk ((stS b m).map ((fun x : List Int × Rows => (x.1, (none : Option Int))) ∘ fun s => (s, rowsO s m p))) s with
  | none => rfl
  | some v =>
    have : ∀ L : List (List Int), ∀ v, lk (L.map ((fun x : List Int × Rows => (x.1, (none : Option Int))) ∘ fun s => (s, rowsO s m p))) s = some v → v = none := by
      intro L
      induction L with
      | nil => intro v h; cases h
      | cons t L ih =>
        intro v h
        rw [List.map_cons, lk_cons] at h
        split at h
        · cases h; rfl
        · exact ih v h
    rw [this _ v q]
    rfl
theorem rel_lvO {A : AT} {F : FT'} (r : Rel A F) (s : List Int) : lk A s = lvO F s := by
  rw [r s]
  unfold lvO
  cases lk F s <;> rfl
/-! ### _law_safe_throws -/
theorem sp_law_safe_throws {G : GT} {A : AT} {s : List Int} {rs : List GRow} (hr : lk G s = some rs) (hl : rs.length ≤ 1000 ∧ ∀ r ∈ rs, r.2.length ≤ 1000) : Gives N__law_safe_throws [dF gmD G, dF D.int A, tupI s] true (.lst ((rs.filter fun r => !canA A r.2).map fun r => .int r.1)) := by
  have i1 : fOp2 gIx (fLv 0) (fLv 2) [.val (dF gmD G), .val (dF D.int A), .val (tupI s), .un, .un, .un] = some (gmD rs, [.val (dF gmD G), .val (dF D.int A), .val (tupI s), .un, .un, .un]) := op2_of rfl rfl rfl rfl (by rw [ix_F, hr]; rfl)
  refine gives_run (e := [.val (dF gmD G), .val (dF D.int A), .val (tupI s), .un, .un, .un]) rfl ?_
  show f__law_safe_throws [.val (dF gmD G), .val (dF D.int A), .val (tupI s), .un, .un, .un] = _
  unfold f__law_safe_throws
  refine retF_of ?_
  exact fComp_on (ι := rowG) (xs := rs) (fun r => !canA A r.2) (fun r => .int r.1) (fun r => [.val (dF gmD G), .val (dF D.int A), .val (tupI s), .val (.int r.1), .val (endsD r.2), .un]) (by
    unfold fiSeq
    rw [i1]
    rfl) (Nat.le_trans hl.1 (by decide)) rfl rfl rfl fun r hr => ⟨rfl, by
      have c := fComp_all (ι := oD) (xs := r.2) (fun e => .bl (match e with
          | none => true
          | some t => (lk A t).isSome)) (fun e => [.val (dF gmD G), .val (dF D.int A), .val (tupI s), .val (.int r.1), .val (endsD r.2), .val (oD e)]) (fi := fiSeq (fVar 4)) (g := setE 5) (f := feOr (fOp2 gIs (fLv 5) (fLd (fC .non))) (fOp2 gIn (fLv 5) (fLv 1))) (vs := [5]) (env := [.val (dF gmD G), .val (dF D.int A), .val (tupI s), .val (.int r.1), .val (endsD r.2), .un]) (env1 := [.val (dF gmD G), .val (dF D.int A), .val (tupI s), .val (.int r.1), .val (endsD r.2), .un]) rfl (Nat.le_trans (hl.2 r hr) (by decide)) rfl rfl rfl fun e he => ⟨rfl, rfl, rfl, by
            cases e with
            | none => rfl
            | some t =>
              have o1 : fOp2 gIs (fLv 5) (fLd (fC .non)) [.val (dF gmD G), .val (dF D.int A), .val (tupI s), .val (.int r.1), .val (endsD r.2), .val (oD (some t))] = some (.bl false, [.val (dF gmD G), .val (dF D.int A), .val (tupI s), .val (.int r.1), .val (endsD r.2), .val (oD (some t))]) := rfl
              have o2 : fOp2 gIn (fLv 5) (fLv 1) [.val (dF gmD G), .val (dF D.int A), .val (tupI s), .val (.int r.1), .val (endsD r.2), .val (oD (some t))] = some (.bl (lk A t).isSome, [.val (dF gmD G), .val (dF D.int A), .val (tupI s), .val (.int r.1), .val (endsD r.2), .val (oD (some t))]) := op2_of rfl rfl rfl rfl (by
                show gIn (tupI t) (dF D.int A) = _
                unfold gIn
                rw [inB_F]
                rfl)
              unfold feOr
              rw [o1]
              exact o2⟩
      unfold ftNot
      rw [test_of' (k := canA A r.2) (fB1_of (fLd_of c) rfl (by
        rw [show (r.2.map fun e => D.bl (match e with
          | none => true
          | some t => (lk A t).isSome)) = (r.2.map fun e => (match e with
          | none => true
          | some t => (lk A t).isSome)).map D.bl by rw [List.map_map]; rfl, any_bls, List.any_map]
        rfl))]
      rfl, rfl, rfl, fun _ => rfl⟩
theorem GS_get {b m p : Int} {s : List Int} (h : (b, m) ∈ sizes) (hp : 0 ≤ p ∧ p ≤ 5) (hs : s ∈ stS b m) : lk (GS b m p) s = some (growG s m p) ∧ (growG s m p).length ≤ 1000 ∧ ∀ r ∈ growG s m p, r.2.length ≤ 1000 := by
  have ok := GS_ok h hp
  have hx : (s, growG s m p) ∈ GS b m p := List.mem_map.mpr ⟨s, hs, rfl⟩
  exact ⟨lk_get ok.nd hx, ok.rows _ hx⟩
theorem safeT_is {b m p : Int} {s : List Int} {A : AT} {F : FT'} (h : (b, m) ∈ sizes) (hs : s ∈ stS b m) (r : Rel A F) : ((growG s m p).filter fun r => !canA A r.2).map (fun r => D.int r.1) = (safeT F s m p).map D.int := by
  rw [growG_is h hs, List.filter_map, List.map_map]
  unfold safeT
  rw [show ((fun r : GRow => !canA A r.2) ∘ fun h => (h, endsO s h m p)) = fun h => !canC F (endsO s h m p) from funext fun h => by rw [← rel_can r]; rfl]
  rfl
end Law
namespace DL
open PySem L2
theorem eqv_ints : ∀ ns ms : List Int, PyData.eqvAll (pys (ns.map D.int)) (pys (ms.map D.int)) = decide (ns = ms)
  | [], [] => rfl
  | [], _ :: _ => rfl
  | _ :: _, [] => rfl
  | n :: ns, m :: ms => by
    show ((n == m) && PyData.eqvAll (pys (ns.map D.int)) (pys (ms.map D.int))) = _
    rw [eqv_ints ns ms]
    by_cases h : n = m <;> by_cases h2 : ns = ms <;> simp [h, h2]
theorem inB_tups (s : List Int) (L : List (List Int)) : gInB (tupI s) (.lst (L.map tupI)) = some (decide (s ∈ L)) := by
  have h1 := (flat_tupI s).shaped (by decide)
  have h2 := (flat_lst (k := 1) (ds := L.map tupI) fun d hd => by
    obtain ⟨s, _, rfl⟩ := List.mem_map.mp hd
    exact flat_tupI s).shaped (by decide)
  rw [py] at h2
  unfold gInB
  simp only [h1, h2, Bool.and_self, if_true]
  unfold inD
  rw [List.any_map]
  congr 1
  rw [Bool.eq_iff_iff, List.any_eq_true, decide_eq_true_eq]
  have e : ∀ t, ((fun z => PyData.eqv (py z) (py (tupI s))) ∘ tupI) t = decide (t = s) := fun t => eqv_ints t s
  constructor
  · rintro ⟨t, ht, h⟩
    rw [e t, decide_eq_true_eq] at h
    exact h ▸ ht
  · exact fun h => ⟨s, h, by rw [e s]; exact decide_eq_true rfl⟩
end DL
namespace Law
open PySem L2 DL
/-! ### _law_steadied -/
def doneA (A : AT) (e : Option (List Int)) : Bool := match e with
  | none => false
  | some t => (lk A t).isSome
def isLaterSA (B A : AT) (x : List Int × List GRow) : Bool := !(lk A x.1).isSome && !(lk B x.1).isSome && x.2.any fun r => r.2.all (doneA A)
def laterSA (G : GT) (B A : AT) : List (List Int) := (G.filter (isLaterSA B A)).map (·.1)
def uE (G : GT) (B : AT) (g : List Int) (A : AT) (beats : Int) (mv : Bool) (s6 s7 s8 s9 : Sl) : En := [.val (dF gmD G), .val (dF D.int B), .val (tupI g), .own false (dF D.int A), .val (.int beats), .val (.bl mv), s6, s7, s8, s9, .un]
abbrev allU : FE := fB gAll (flCons (fLd (fComp (fiSeq (fVar 9)) (setE 10) fYes (feAnd (fOp2 gIsNot (fLv 10) (fLd (fC .non))) (fOp2 gIn (fLv 10) (fLv 3))) [10])) flNil)
theorem allU_ok {G : GT} {B : AT} {g : List Int} {A : AT} {beats : Int} {mv : Bool} {s6 s7 s8 : Sl} {es : List (Option (List Int))} (hl : es.length ≤ 1000) :
    allU (uE G B g A beats mv s6 s7 s8 (.val (endsD es))) = some (.bl (es.all (doneA A)), uE G B g A beats mv s6 s7 s8 (.val (endsD es))) := by
  have c := fComp_all (ι := oD) (xs := es) (fun e => .bl (doneA A e)) (fun e => (uE G B g A beats mv s6 s7 s8 (.val (endsD es))).set 10 (.val (oD e))) (fi := fiSeq (fVar 9)) (g := setE 10) (f := feAnd (fOp2 gIsNot (fLv 10) (fLd (fC .non))) (fOp2 gIn (fLv 10) (fLv 3))) (vs := [10]) (env := uE G B g A beats mv s6 s7 s8 (.val (endsD es))) (env1 := uE G B g A beats mv s6 s7 s8 (.val (endsD es))) rfl (Nat.le_trans hl (by decide)) rfl rfl rfl fun e he => ⟨rfl, rfl, rfl, by
    cases e with
    | none => rfl
    | some t =>
      have o1 : fOp2 gIsNot (fLv 10) (fLd (fC .non)) ((uE G B g A beats mv s6 s7 s8 (.val (endsD es))).set 10 (.val (oD (some t)))) = some (.bl true, (uE G B g A beats mv s6 s7 s8 (.val (endsD es))).set 10 (.val (oD (some t)))) := rfl
      have o2 : fOp2 gIn (fLv 10) (fLv 3) ((uE G B g A beats mv s6 s7 s8 (.val (endsD es))).set 10 (.val (oD (some t)))) = some (.bl (lk A t).isSome, (uE G B g A beats mv s6 s7 s8 (.val (endsD es))).set 10 (.val (oD (some t)))) := op2_of rfl rfl rfl rfl (by
        show gIn (tupI t) (dF D.int A) = _
        unfold gIn
        rw [inB_F]
        rfl)
      unfold feAnd
      rw [o1]
      exact o2⟩
  refine fB1_of (fLd_of c) rfl ?_
  rw [show (es.map fun e => D.bl (doneA A e)) = (es.map (doneA A)).map D.bl by rw [List.map_map]; rfl, all_bls, List.all_map]
  rfl
abbrev loopU0 : FS := fFor (fiSeq (fOp2 gIx (fLv 0) (fLv 7))) (fgTup (fgCons (setE 8) (fgCons (setE 9) fgNil)) 2)
    (fIf (ftAnd (fTest allU) (fTest (fOp2 gNotIn (fLv 7) (fLv 6))))
    (fDrop (fAppend 6 (faCons (fVar 7) faNil)))
    fSkip)
theorem loopU0_ok {G : GT} {B : AT} {g : List Int} {A : AT} {beats : Int} {mv : Bool} {L : List (List Int)} {s8 s9 : Sl} {x : List Int × List GRow} (ok : GOk G) (hx : x ∈ G) (hn : x.1 ∉ L) (hl : L.length ≤ 1000) (m8 : s8.mine = true) (m9 : s9.mine = true) :
    ∃ t8 t9, t8.mine = true ∧ t9.mine = true ∧ loopU0 (uE G B g A beats mv (.own false (.lst (L.map tupI))) (.val (tupI x.1)) s8 s9) = some (.nx (uE G B g A beats mv (.own false (.lst ((if (x.2.any fun r => r.2.all (doneA A)) then L ++ [x.1] else L).map tupI))) (.val (tupI x.1)) t8 t9)) := by
  obtain ⟨hr, he⟩ := ok.rows x hx
  have i1 : fOp2 gIx (fLv 0) (fLv 7) (uE G B g A beats mv (.own false (.lst (L.map tupI))) (.val (tupI x.1)) s8 s9) = some (gmD x.2, uE G B g A beats mv (.own false (.lst (L.map tupI))) (.val (tupI x.1)) s8 s9) := op2_of rfl rfl rfl rfl (by rw [ix_F, lk_get ok.nd hx]; rfl)
  obtain ⟨env', h1, t8, t9, n8, n9, rfl⟩ := loopD_inv (α := GRow) (ι := rowG) (g := fgTup (fgCons (setE 8) (fgCons (setE 9) fgNil)) 2) (f := fIf (ftAnd (fTest allU) (fTest (fOp2 gNotIn (fLv 7) (fLv 6))))
    (fDrop (fAppend 6 (faCons (fVar 7) faNil)))
    fSkip)
    (fun i env => ∃ t8 t9 : Sl, t8.mine = true ∧ t9.mine = true ∧ env = uE G B g A beats mv (.own false (.lst ((if ((x.2.take i).any fun r => r.2.all (doneA A)) then L ++ [x.1] else L).map tupI))) (.val (tupI x.1)) t8 t9) (xs := x.2) (k := 0) (env := uE G B g A beats mv (.own false (.lst (L.map tupI))) (.val (tupI x.1)) s8 s9) (fun i r hi env he' => by
      obtain ⟨t8, t9, n8, n9, rfl⟩ := he'
      rw [Nat.zero_add, DL.take_next hi, List.any_append]
      generalize hq : ((x.2.take i).any fun r => r.2.all (doneA A)) = q
      generalize hM : (if q then L ++ [x.1] else L) = M
      have hMl : M.length ≤ 1001 := by
        rw [← hM]
        split
        · rw [List.length_append]; simp; omega
        · omega
      refine ⟨uE G B g A beats mv (.own false (.lst (M.map tupI))) (.val (tupI x.1)) (.val (.int r.1)) (.val (endsD r.2)), ?_, ?_⟩
      · show (fgCons (setE 8) (fgCons (setE 9) fgNil)) [.int r.1, endsD r.2] _ = _
        unfold fgCons
        simp only [setE_mine (i := 8) (env := uE G B g A beats mv (.own false (.lst (M.map tupI))) (.val (tupI x.1)) t8 t9) rfl n8]
        simp only [setE_mine (i := 9) (env := (uE G B g A beats mv (.own false (.lst (M.map tupI))) (.val (tupI x.1)) t8 t9).set 8 (.val (.int r.1))) rfl n9]
        rfl
      · have t1 := test_of' (allU_ok (G := G) (B := B) (g := g) (A := A) (beats := beats) (mv := mv) (s6 := .own false (.lst (M.map tupI))) (s7 := .val (tupI x.1)) (s8 := .val (.int r.1)) (es := r.2) (he r (List.mem_of_getElem? hi)))
        have any1 : ([r].any fun r => r.2.all (doneA A)) = r.2.all (doneA A) := by rw [List.any_cons]; show (_ || false) = _; rw [Bool.or_false]
        rw [any1]
        cases q1 : r.2.all (doneA A) with
        | false =>
          rw [q1] at t1
          refine ⟨_, .inl (if_ff (and_ff t1) rfl), .val (.int r.1), .val (endsD r.2), rfl, rfl, ?_⟩
          rw [Bool.or_false, hM]
        | true =>
          rw [q1] at t1
          have t2 : fTest (fOp2 gNotIn (fLv 7) (fLv 6)) (uE G B g A beats mv (.own false (.lst (M.map tupI))) (.val (tupI x.1)) (.val (.int r.1)) (.val (endsD r.2))) = some (!decide (x.1 ∈ M), uE G B g A beats mv (.own false (.lst (M.map tupI))) (.val (tupI x.1)) (.val (.int r.1)) (.val (endsD r.2))) := test_op2 rfl rfl rfl rfl (by
            unfold gNotIn
            rw [inB_tups]
            rfl)
          cases q with
          | true =>
            rw [if_pos rfl] at hM
            rw [decide_eq_true (show x.1 ∈ M by rw [← hM]; simp)] at t2
            refine ⟨_, .inl (if_ff (and_tt t1 t2) rfl), .val (.int r.1), .val (endsD r.2), rfl, rfl, ?_⟩
            rw [Bool.true_or, if_pos rfl, hM]
          | false =>
            rw [if_neg Bool.false_ne_true] at hM
            rw [decide_eq_false (show x.1 ∉ M by rw [← hM]; exact hn)] at t2
            refine ⟨uE G B g A beats mv (.own false (.lst ((M ++ [x.1]).map tupI))) (.val (tupI x.1)) (.val (.int r.1)) (.val (endsD r.2)), .inl (if_tt (and_tt t1 t2) ?_), .val (.int r.1), .val (endsD r.2), rfl, rfl, ?_⟩
            · have e1 : lstAt 6 (uE G B g A beats mv (.own false (.lst (M.map tupI))) (.val (tupI x.1)) (.val (.int r.1)) (.val (endsD r.2))) = some (false, M.map tupI) := rfl
              have e2 : faCons (fVar 7) faNil (uE G B g A beats mv (.own false (.lst (M.map tupI))) (.val (tupI x.1)) (.val (.int r.1)) (.val (endsD r.2))) = some ([tupI x.1], uE G B g A beats mv (.own false (.lst (M.map tupI))) (.val (tupI x.1)) (.val (.int r.1)) (.val (endsD r.2))) := rfl
              unfold fDrop fAppend
              rw [e1]
              simp only [e2, e1]
              rw [if_pos (by rw [List.length_map]; exact Nat.lt_of_le_of_lt hMl (by decide)), List.map_append]
              rfl
            · rw [Bool.or_true, if_pos rfl, ← hM]) ⟨s8, s9, m8, m9, rfl⟩
  refine ⟨t8, t9, n8, n9, ?_⟩
  rw [Nat.zero_add, List.take_length] at h1
  exact forD_of (by
    unfold fiSeq
    rw [i1]
    rfl) h1
abbrev loopU1 : FS := fFor (fiKeysV 0) (setE 7)
    (fIf (ftAnd (fTest (fOp2 gNotIn (fLv 7) (fLv 3))) (fTest (fOp2 gNotIn (fLv 7) (fLv 1)))) loopU0 fSkip)
theorem loopU1_ok {G : GT} {B : AT} {g : List Int} {A : AT} {beats : Int} {mv : Bool} {s7 s8 s9 : Sl} (ok : GOk G) (m7 : s7.mine = true) (m8 : s8.mine = true) (m9 : s9.mine = true) :
    ∃ t7 t8 t9, t7.mine = true ∧ t8.mine = true ∧ t9.mine = true ∧ loopU1 (uE G B g A beats mv (.own false (.lst [])) s7 s8 s9) = some (.nx (uE G B g A beats mv (.own false (.lst ((laterSA G B A).map tupI))) t7 t8 t9)) := by
  obtain ⟨env', h1, t7, t8, t9, n7, n8, n9, rfl⟩ := loopD_inv (α := List Int × List GRow) (ι := fun x => tupI x.1) (g := setE 7) (f := fIf (ftAnd (fTest (fOp2 gNotIn (fLv 7) (fLv 3))) (fTest (fOp2 gNotIn (fLv 7) (fLv 1)))) loopU0 fSkip)
    (fun i env => ∃ t7 t8 t9 : Sl, t7.mine = true ∧ t8.mine = true ∧ t9.mine = true ∧ env = uE G B g A beats mv (.own false (.lst ((laterSA (G.take i) B A).map tupI))) t7 t8 t9) (xs := G) (k := 0) (env := uE G B g A beats mv (.own false (.lst [])) s7 s8 s9) (fun i x hi env he => by
      obtain ⟨t7, t8, t9, n7, n8, n9, rfl⟩ := he
      rw [Nat.zero_add]
      have hx := List.mem_of_getElem? hi
      have hil := (List.getElem?_eq_some_iff.mp hi).1
      have e : laterSA (G.take (i + 1)) B A = if isLaterSA B A x then laterSA (G.take i) B A ++ [x.1] else laterSA (G.take i) B A := by
        unfold laterSA
        rw [DL.take_next hi, List.filter_append, List.map_append, List.filter_cons]
        split
        · rfl
        · exact List.append_nil _
      have hn : x.1 ∉ laterSA (G.take i) B A := fun z => by
        obtain ⟨y, hy, hyx⟩ := List.mem_map.mp z
        have hm : (G.map (·.1))[i]? = some x.1 := by rw [List.getElem?_map, hi]; rfl
        refine take_not ok.nd hm ?_
        rw [← List.map_take, ← hyx]
        exact List.mem_map.mpr ⟨y, (List.mem_filter.mp hy).1, rfl⟩
      have hll : (laterSA (G.take i) B A).length ≤ 1000 := by
        unfold laterSA
        rw [List.length_map]
        have := List.length_filter_le (isLaterSA B A) (G.take i)
        rw [List.length_take] at this
        have := ok.len
        omega
      generalize laterSA (G.take i) B A = L at e hn hll ⊢
      refine ⟨uE G B g A beats mv (.own false (.lst (L.map tupI))) (.val (tupI x.1)) t8 t9, setE_mine rfl n7, ?_⟩
      have t1 : fTest (fOp2 gNotIn (fLv 7) (fLv 3)) (uE G B g A beats mv (.own false (.lst (L.map tupI))) (.val (tupI x.1)) t8 t9) = some (!(lk A x.1).isSome, uE G B g A beats mv (.own false (.lst (L.map tupI))) (.val (tupI x.1)) t8 t9) := test_op2 rfl rfl rfl rfl (by
        unfold gNotIn
        rw [inB_F]
        rfl)
      have t2 : fTest (fOp2 gNotIn (fLv 7) (fLv 1)) (uE G B g A beats mv (.own false (.lst (L.map tupI))) (.val (tupI x.1)) t8 t9) = some (!(lk B x.1).isSome, uE G B g A beats mv (.own false (.lst (L.map tupI))) (.val (tupI x.1)) t8 t9) := test_op2 rfl rfl rfl rfl (by
        unfold gNotIn
        rw [inB_F]
        rfl)
      rw [e]
      unfold isLaterSA
      cases q1 : (lk A x.1).isSome with
      | true =>
        rw [q1] at t1
        exact ⟨_, .inl (if_ff (and_ff t1) rfl), .val (tupI x.1), t8, t9, rfl, n8, n9, by simp⟩
      | false =>
        rw [q1] at t1
        cases q2 : (lk B x.1).isSome with
        | true =>
          rw [q2] at t2
          exact ⟨_, .inl (if_ff (and_tt t1 t2) rfl), .val (tupI x.1), t8, t9, rfl, n8, n9, by simp⟩
        | false =>
          rw [q2] at t2
          obtain ⟨u8, u9, v8, v9, hb⟩ := loopU0_ok (G := G) (B := B) (g := g) (A := A) (beats := beats) (mv := mv) ok hx hn hll n8 n9
          exact ⟨_, .inl (if_tt (and_tt t1 t2) hb), .val (tupI x.1), u8, u9, rfl, v8, v9, rfl⟩) ⟨s7, s8, s9, m7, m8, m9, rfl⟩
  refine ⟨t7, t8, t9, n7, n8, n9, ?_⟩
  rw [Nat.zero_add, List.take_length] at h1
  exact forD_of (keys_F gmD 0 rfl) h1
abbrev loopU2 : FS := fFrz 6 (fFor (fiSeq (fVar 6)) (setE 7) (fAsg (fVar 4) (fgSub 3 (fLv 7))))
theorem loopU2_ok {G : GT} {B : AT} {g : List Int} {A : AT} {beats : Int} {mv : Bool} {L : List (List Int)} {s7 s8 s9 : Sl} (hL : L.Nodup) (hn : ∀ s ∈ L, s ∉ A.map (·.1)) (hl : A.length + L.length ≤ 900000) (m7 : s7.mine = true) :
    ∃ t7, t7.mine = true ∧ loopU2 (uE G B g A beats mv (.own false (.lst (L.map tupI))) s7 s8 s9) = some (.nx (uE G B g (lapA beats L A) beats mv (.val (.lst (L.map tupI))) t7 s8 s9)) := by
  obtain ⟨env', h1, t5, n5, rfl⟩ := loopD_inv (α := List Int) (ι := tupI) (g := setE 7) (f := fAsg (fVar 4) (fgSub 3 (fLv 7)))
    (fun i env => ∃ t5 : Sl, t5.mine = true ∧ env = uE G B g (lapA beats (L.take i) A) beats mv (.val (.lst (L.map tupI))) t5 s8 s9) (xs := L) (k := 0) (env := uE G B g (lapA beats [] A) beats mv (.val (.lst (L.map tupI))) s7 s8 s9) (fun i s hx env he => by
      obtain ⟨t5, n5, rfl⟩ := he
      rw [Nat.zero_add]
      refine ⟨uE G B g (lapA beats (L.take i) A) beats mv (.val (.lst (L.map tupI))) (.val (tupI s)) s8 s9, setE_mine rfl n5, uE G B g (lapA beats (L.take (i + 1)) A) beats mv (.val (.lst (L.map tupI))) (.val (tupI s)) s8 s9, .inl (asg_of (d := .int beats) (e := uE G B g (lapA beats (L.take i) A) beats mv (.val (.lst (L.map tupI))) (.val (tupI s)) s8 s9) rfl ?_), _, rfl, rfl⟩
      have nk : s ∉ (lapA beats (L.take i) A).map (·.1) := by
        unfold lapA
        rw [List.map_append, List.mem_append, List.map_map, show ((fun x : List Int × Int => x.1) ∘ fun s => (s, beats)) = id from rfl, List.map_id]
        exact fun z => z.elim (hn s (List.mem_of_getElem? hx)) (take_not hL hx)
      have ln : (lapA beats (L.take i) A).length < mx := by
        unfold lapA
        rw [List.length_append, List.length_map, List.length_take]
        have : (900001 : Nat) ≤ mx := by decide
        omega
      have hput : putD (dF D.int (lapA beats (L.take i) A)) (tupI s) (.int beats) = some (dF D.int (lapA beats (L.take i) A ++ [(s, beats)])) := putD_new D.int beats nk ln
      have e : lapA beats (L.take (i + 1)) A = lapA beats (L.take i) A ++ [(s, beats)] := by
        unfold lapA
        rw [DL.take_next hx, List.map_append, List.append_assoc]
        rfl
      rw [e]
      show (putD (dF D.int (lapA beats (L.take i) A)) (tupI s) (.int beats)).map _ = _
      rw [hput]
      rfl) ⟨s7, m7, rfl⟩
  refine ⟨t5, n5, ?_⟩
  rw [Nat.zero_add, List.take_length] at h1
  have e : lapA beats [] A = A := List.append_nil A
  rw [e] at h1
  show fFor (fiSeq (fVar 6)) (setE 7) _ (uE G B g A beats mv (.val (.lst (L.map tupI))) s7 s8 s9) = _
  exact forD_of rfl h1
abbrev bodyU : FS := fSeq (fPar [4, 6] (fmVal (fOp2 DL.gAdd (fLv 4) (fLd (fC (.int 1)))) (fmOwn (fLst faNil) fmNil))) (fSeq loopU1 (fSeq loopU2 (fSet 5 (fOp2 gNe (fLv 6) (fLd (fLst faNil))))))
theorem laterSA_len {G : GT} {B A : AT} (ok : GOk G) : (laterSA G B A).length ≤ 60 := by
  unfold laterSA
  rw [List.length_map]
  exact Nat.le_trans (List.length_filter_le _ _) ok.len
theorem laterSA_new {G : GT} {B A : AT} : ∀ s ∈ laterSA G B A, s ∉ A.map (·.1) := fun s h z => by
  obtain ⟨x, hx, rfl⟩ := List.mem_map.mp h
  have := (List.mem_filter.mp hx).2
  unfold isLaterSA at this
  rw [lk_isSome.mpr z] at this
  cases this
theorem bodyU_ok {G : GT} {B : AT} {g : List Int} {A : AT} {beats : Int} {s6 s7 s8 s9 : Sl} (ok : GOk G) (hl : A.length ≤ 800000) (m6 : s6.mine = true) (m7 : s7.mine = true) (m8 : s8.mine = true) (m9 : s9.mine = true) :
    ∃ t6 t7 t8 t9, t6.mine = true ∧ t7.mine = true ∧ t8.mine = true ∧ t9.mine = true ∧ bodyU (uE G B g A beats true s6 s7 s8 s9) = some (.nx (uE G B g (lapA (beats + 1) (laterSA G B A) A) (beats + 1) (!decide (laterSA G B A = [])) t6 t7 t8 t9)) := by
  have p1 : fPar [4, 6] (fmVal (fOp2 DL.gAdd (fLv 4) (fLd (fC (.int 1)))) (fmOwn (fLst faNil) fmNil)) (uE G B g A beats true s6 s7 s8 s9) = some (.nx (uE G B g A (beats + 1) true (.own false (.lst [])) s7 s8 s9)) := by
    cases s6 with
    | un => rfl
    | val d => rfl
    | own io d => cases io with
      | true => cases m6
      | false => rfl
  obtain ⟨t7, t8, t9, n7, n8, n9, l1⟩ := loopU1_ok (B := B) (g := g) (A := A) (beats := beats + 1) (mv := true) ok m7 m8 m9
  obtain ⟨u7, w7, l2⟩ := loopU2_ok (G := G) (B := B) (g := g) (A := A) (beats := beats + 1) (mv := true) (L := laterSA G B A) (s8 := t8) (s9 := t9) (later_sub (β := Nat) ok.nd) laterSA_new (by have := laterSA_len (B := B) (A := A) ok; omega) n7
  refine ⟨.val (.lst ((laterSA G B A).map tupI)), u7, t8, t9, rfl, w7, n8, n9, seq_nx p1 (seq_nx l1 (seq_nx l2 (set_of (d := .bl (!decide (laterSA G B A = []))) (e := uE G B g (lapA (beats + 1) (laterSA G B A) A) (beats + 1) true (.val (.lst ((laterSA G B A).map tupI))) u7 t8 t9) ?_ rfl)))⟩
  exact op2_of rfl rfl rfl rfl (ne_nil _)
theorem whileU_ok {G : GT} {B : AT} {g : List Int} (ok : GOk G) : ∀ (n : Nat) {beats : Int} {A A' : AT} {s6 s7 s8 s9 : Sl}, A.length + 60 * n ≤ 800000 → s6.mine = true → s7.mine = true → s8.mine = true → s9.mine = true → whileA (laterSA G B) n beats A = some A' →
    ∃ b' t6 t7 t8 t9, fWhile (n + 1) (fTest (fVar 5)) bodyU (uE G B g A beats true s6 s7 s8 s9) = some (.nx (uE G B g A' b' false t6 t7 t8 t9))
  | 0, _, _, _, _, _, _, _, _, _, _, _, _, h => by cases h
  | n + 1, beats, A, A', s6, s7, s8, s9, hl, m6, m7, m8, m9, h => by
    obtain ⟨t6, t7, t8, t9, n6, n7, n8, n9, hb⟩ := bodyU_ok (B := B) (g := g) (A := A) (beats := beats) ok (by omega) m6 m7 m8 m9
    unfold whileA at h
    by_cases hL : laterSA G B A = []
    · rw [if_pos hL] at h
      cases h
      rw [hL, show lapA (beats + 1) [] A = A from List.append_nil A] at hb
      exact ⟨beats + 1, t6, t7, t8, t9, while_go rfl hb (while_end rfl)⟩
    · rw [if_neg hL] at h
      rw [decide_eq_false hL] at hb
      obtain ⟨b', u6, u7, u8, u9, hw⟩ := whileU_ok ok n (by
        unfold lapA
        rw [List.length_append, List.length_map]
        have := laterSA_len (B := B) (A := A) ok
        omega) n6 n7 n8 n9 h
      exact ⟨b', u6, u7, u8, u9, while_go rfl hb hw⟩
def stdA (G : GT) (B : AT) (g : List Int) : Option AT := if (lk B g).isSome then some [] else whileA (laterSA G B) 199 0 [(g, 0)]
theorem sp_law_steadied {G : GT} {B A : AT} {g : List Int} (ok : GOk G) (hA : stdA G B g = some A) : Gives N__law_steadied [dF gmD G, dF D.int B, tupI g] true (dF D.int A) := by
  have o1 : fOp2 gNotIn (fLv 2) (fLv 1) [.val (dF gmD G), .val (dF D.int B), .val (tupI g), .un, .un, .un, .un, .un, .un, .un, .un] = some (.bl (!(lk B g).isSome), [.val (dF gmD G), .val (dF D.int B), .val (tupI g), .un, .un, .un, .un, .un, .un, .un, .un]) := op2_of rfl rfl rfl rfl (by
    unfold gNotIn
    rw [inB_F]
    rfl)
  have t1 := test_of' o1
  unfold stdA at hA
  cases q : (lk B g).isSome with
  | true =>
    rw [q, if_pos rfl] at hA
    cases hA
    rw [q] at o1 t1
    have p0 : fPar [3, 4, 5] (fmOwn (feIf (fTest (fOp2 gNotIn (fLv 2) (fLv 1))) (fDict1 true (fVar 2) (fC (.int 0))) (fC (.dT []))) (fmVal (fC (.int 0)) (fmVal (fOp2 gNotIn (fLv 2) (fLv 1)) fmNil))) [.val (dF gmD G), .val (dF D.int B), .val (tupI g), .un, .un, .un, .un, .un, .un, .un, .un] = some (.nx (uE G B g [] 0 false .un .un .un .un)) := by
      have x1 : feIf (fTest (fOp2 gNotIn (fLv 2) (fLv 1))) (fDict1 true (fVar 2) (fC (.int 0))) (fC (.dT [])) [.val (dF gmD G), .val (dF D.int B), .val (tupI g), .un, .un, .un, .un, .un, .un, .un, .un] = some (.dT [], [.val (dF gmD G), .val (dF D.int B), .val (tupI g), .un, .un, .un, .un, .un, .un, .un, .un]) := feif_ff t1 rfl
      have c0 : fC (.int 0) [.val (dF gmD G), .val (dF D.int B), .val (tupI g), .un, .un, .un, .un, .un, .un, .un, .un] = some (.int 0, [.val (dF gmD G), .val (dF D.int B), .val (tupI g), .un, .un, .un, .un, .un, .un, .un, .un]) := rfl
      unfold fPar fmOwn
      simp only [x1]
      simp only [fmVal, c0, o1]
      rfl
    refine gives_run (e := (uE G B g [] 0 false .un .un .un .un).set 3 .un) rfl ?_
    show f__law_steadied [.val (dF gmD G), .val (dF D.int B), .val (tupI g), .un, .un, .un, .un, .un, .un, .un, .un] = _
    unfold f__law_steadied
    exact seq_nx p0 (seq_nx (while_end rfl) rfl)
  | false =>
    rw [q, if_neg Bool.false_ne_true] at hA
    rw [q] at o1 t1
    have p0 : fPar [3, 4, 5] (fmOwn (feIf (fTest (fOp2 gNotIn (fLv 2) (fLv 1))) (fDict1 true (fVar 2) (fC (.int 0))) (fC (.dT []))) (fmVal (fC (.int 0)) (fmVal (fOp2 gNotIn (fLv 2) (fLv 1)) fmNil))) [.val (dF gmD G), .val (dF D.int B), .val (tupI g), .un, .un, .un, .un, .un, .un, .un, .un] = some (.nx (uE G B g [(g, 0)] 0 true .un .un .un .un)) := by
      have hput : putD (dE true) (tupI g) (.int 0) = some (dF D.int [(g, 0)]) := putD_new D.int (F := []) 0 (by simp) (by decide)
      have x1 : feIf (fTest (fOp2 gNotIn (fLv 2) (fLv 1))) (fDict1 true (fVar 2) (fC (.int 0))) (fC (.dT [])) [.val (dF gmD G), .val (dF D.int B), .val (tupI g), .un, .un, .un, .un, .un, .un, .un, .un] = some (dF D.int [(g, 0)], [.val (dF gmD G), .val (dF D.int B), .val (tupI g), .un, .un, .un, .un, .un, .un, .un, .un]) := by
        refine feif_tt t1 ?_
        show (putD (dE true) (tupI g) (.int 0)).map _ = _
        rw [hput]
        rfl
      have c0 : fC (.int 0) [.val (dF gmD G), .val (dF D.int B), .val (tupI g), .un, .un, .un, .un, .un, .un, .un, .un] = some (.int 0, [.val (dF gmD G), .val (dF D.int B), .val (tupI g), .un, .un, .un, .un, .un, .un, .un, .un]) := rfl
      unfold fPar fmOwn
      simp only [x1]
      simp only [fmVal, c0, o1]
      rfl
    obtain ⟨b', t6, t7, t8, t9, hw⟩ := whileU_ok ok 199 (B := B) (g := g) (beats := 0) (A := [(g, 0)]) (s6 := .un) (s7 := .un) (s8 := .un) (s9 := .un) (show 1 + 60 * 199 ≤ 800000 by decide) rfl rfl rfl rfl hA
    refine gives_run (e := (uE G B g A b' false t6 t7 t8 t9).set 3 .un) rfl ?_
    show f__law_steadied [.val (dF gmD G), .val (dF D.int B), .val (tupI g), .un, .un, .un, .un, .un, .un, .un, .un] = _
    unfold f__law_steadied
    exact seq_nx p0 (seq_nx hw rfl)
end Law
namespace Law
open PySem L2 DL
/-! ### the steadied, both ways -/
theorem rel_done {A : AT} {F : FT'} (r : Rel A F) (es : List (Option (List Int))) : es.all (doneA A) = es.all (doneC F) := by
  congr 1
  funext e
  unfold doneA doneC
  cases e with
  | none => rfl
  | some s =>
    simp only [r s]
    cases lk F s with
    | none => rfl
    | some v => cases v <;> rfl
theorem lvO_safe {b m : Int} {C : FT'} {s : List Int} : s ∈ safeS b m C ↔ s ∈ stS b m ∧ lvO C s = none := by
  unfold safeS
  rw [List.mem_filter]
  constructor
  · rintro ⟨h1, h2⟩
    exact ⟨h1, by simpa using h2⟩
  · rintro ⟨h1, h2⟩
    exact ⟨h1, by rw [h2]; rfl⟩
theorem done_safe {b m : Int} {C F : FT'} {es : List (Option (List Int))} (hk : F.map (·.1) = safeS b m C) (h : es.all (doneC F) = true) : canC C es = false := by
  unfold canC
  rw [List.any_eq_false]
  intro e he
  rw [List.all_eq_true] at h
  have := h e he
  cases e with
  | none => cases this
  | some t =>
    have ht : t ∈ safeS b m C := by
      rw [← hk]
      refine lk_isSome.mp ?_
      unfold doneC at this
      simp only at this
      cases q : lk F t with
      | none => rw [q] at this; cases this
      | some v => rfl
    have := (lvO_safe.mp ht).2
    unfold lvO at this
    simp only
    cases q : lk C t with
    | none => simp
    | some v =>
      rw [q] at this
      have : v = none := this
      rw [this]
      simp
theorem rel_laterS {b m p : Int} {A B : AT} {F C : FT'} (h : (b, m) ∈ sizes) (hC : C.map (·.1) = stS b m) (rB : Rel B C) (hk : F.map (·.1) = safeS b m C) (r : Rel A F) : laterSA (GS b m p) B A = laterS (knS b m p C) F := by
  unfold laterSA laterS GS knS
  rw [filter_keys, filter_keys]
  show _ = (List.filter _ (stS b m)).filter _
  rw [List.filter_filter]
  refine List.filter_congr fun s hs => ?_
  unfold isLaterSA isLaterS
  simp only
  rw [rel_lvO rB s]
  have gr : (growG s m p).any (fun r => r.2.all (doneA A)) = (rowsO s m p).any fun es => es.all (doneC F) := by
    rw [growG_is h hs]
    unfold rowsO
    rw [List.any_map, List.any_map]
    congr 1
    funext h
    exact rel_done r _
  rw [gr]
  cases q : lvO C s with
  | some k => simp
  | none =>
    have hs' : s ∈ safeS b m C := lvO_safe.mpr ⟨hs, q⟩
    obtain ⟨v, hv⟩ := Option.isSome_iff_exists.mp (lk_isSome.mpr (show s ∈ F.map (·.1) by rw [hk]; exact hs'))
    have e1 : isNo F s = !(lk A s).isSome := by
      unfold isNo
      rw [r s, hv]
      cases v <;> rfl
    have e2 : (krO s m p C).any (fun es => es.all (doneC F)) = (rowsO s m p).any fun es => es.all (doneC F) := by
      unfold krO
      rw [Bool.eq_iff_iff, List.any_eq_true, List.any_eq_true]
      constructor
      · rintro ⟨es, he, hd⟩
        exact ⟨es, (List.mem_filter.mp he).1, hd⟩
      · rintro ⟨es, he, hd⟩
        exact ⟨es, List.mem_filter.mpr ⟨he, by rw [done_safe hk hd]; rfl⟩, hd⟩
    rw [e1, e2]
    simp
theorem lk_F0 {R : RT} {s : List Int} : (lk (F0 R) s).join = none := by
  unfold F0
  induction R with
  | nil => rfl
  | cons x R ih =>
    rw [List.map_cons, lk_cons]
    split
    · rfl
    · exact ih
def chkG (x : Int × Int) : Bool := decide (rngI 0 x.1 ∈ stS x.1 x.2) && (stS x.1 x.2).all fun s => (throwsO s x.2).any fun h => (endsO s h x.2 0).all Option.isSome
theorem chkG_all : ∀ x ∈ sizes, chkG x = true := by decide +kernel
theorem endsO_ne {s : List Int} {h m p : Int} (hh : 0 ≤ h ∧ h ≤ m) (hp : 0 ≤ p) : endsO s h m p ≠ [] := by
  unfold endsO
  split
  · simp
  · rename_i h0
    intro z
    have := congrArg List.length z
    rw [List.length_map, rngI_len] at this
    have h1 : mxI 1 (h - p) ≤ h := by unfold mxI; split <;> omega
    have h2 : h ≤ mnI m (h + p) := by unfold mnI; split <;> omega
    simp at this
    omega
theorem std_rel {b m p : Int} {B : AT} {C G : FT'} (h : (b, m) ∈ sizes) (hp : 0 ≤ p) (hC : C.map (·.1) = stS b m) (rB : Rel B C) (hG : stdF b m p C = some G) : ∃ A, stdA (GS b m p) B (rngI 0 b) = some A ∧ Rel A G := by
  have z := sz_of h
  have hg : rngI 0 b ∈ stS b m := by
    have := chkG_all _ h
    unfold chkG at this
    rw [Bool.and_eq_true, decide_eq_true_eq] at this
    exact this.1
  have key : (lk (F0 (knS b m p C)) (rngI 0 b)).isSome = true ↔ lvO C (rngI 0 b) = none := by
    rw [lk_isSome, F0_keys, knS_keys, lvO_safe]
    exact ⟨fun h => h.2, fun h => ⟨hg, h⟩⟩
  unfold stdF stF1 at hG
  unfold stdA
  rw [rel_lvO rB]
  cases q : lvO C (rngI 0 b) with
  | some k =>
    have nk : ¬ (lk (F0 (knS b m p C)) (rngI 0 b)).isSome = true := fun z => by rw [key.mp z] at q; cases q
    rw [if_neg nk] at hG
    refine ⟨[], rfl, ?_⟩
    have hL : laterS (knS b m p C) (F0 (knS b m p C)) = [] := by
      refine List.eq_nil_iff_forall_not_mem.mpr fun s hs => ?_
      obtain ⟨x, hx, rfl⟩ := List.mem_map.mp hs
      obtain ⟨hx1, hx2⟩ := List.mem_filter.mp hx
      unfold isLaterS at hx2
      rw [Bool.and_eq_true, List.any_eq_true] at hx2
      obtain ⟨es, he, hd⟩ := hx2.2
      obtain ⟨s, hs1, rfl⟩ := List.mem_map.mp hx1
      have he1 := (List.mem_filter.mp he).1
      obtain ⟨o, ho, rfl⟩ := List.mem_map.mp he1
      obtain ⟨e, es', ee⟩ := List.exists_cons_of_ne_nil (endsO_ne (s := s) (p := p) (throwsO_mem z.m0 ho) hp)
      rw [ee, List.all_cons, Bool.and_eq_true] at hd
      have hd := hd.1
      unfold doneC at hd
      cases e with
      | none => cases hd
      | some t =>
        simp only at hd
        have := lk_F0 (R := knS b m p C) (s := t)
        cases q2 : lk (F0 (knS b m p C)) t with
        | none => rw [q2] at hd; cases hd
        | some v =>
          rw [q2] at hd this
          cases v with
          | none => cases hd
          | some k => cases this
    have e : (199 : Nat) = 198 + 1 := rfl
    rw [e] at hG
    unfold whileG at hG
    rw [if_pos hL] at hG
    cases hG
    exact fun s => (lk_F0).symm
  | none =>
    rw [if_pos (key.mpr q)] at hG
    rw [if_neg (by simp)]
    refine rel_while (Ks := safeS b m C) (fun A F hk r => rel_laterS h hC rB hk r) (fun F s hs => (laterS_mem s hs).2) 199 (by rw [putF_keys, F0_keys, knS_keys]) (fun s => ?_) hG
    rw [lk_putF, lk_cons]
    by_cases e : rngI 0 b = s
    · rw [if_pos e, if_pos e.symm, ← e]
      obtain ⟨v, hv⟩ := Option.isSome_iff_exists.mp (key.mpr q)
      rw [hv]
      rfl
    · rw [if_neg e, if_neg (Ne.symm e), lk_F0]
      rfl
/-! ### what the levels are -/
theorem whileG_inv {later : FT' → List (List Int)} (P : Int → FT' → Prop) (hs : ∀ k F, P k F → P (k + 1) (lapF (k + 1) (later F) F)) : ∀ (n : Nat) {k : Int} {F F' : FT'}, P k F → whileG later n k F = some F' → ∃ k', P k' F' ∧ later F' = []
  | 0, _, _, _, _, h => by cases h
  | n + 1, k, F, F', hP, h => by
    unfold whileG at h
    by_cases hL : later F = []
    · rw [if_pos hL] at h
      cases h
      exact ⟨k, hP, hL⟩
    · rw [if_neg hL] at h
      exact whileG_inv P hs n (hs k F hP) h
def Lev (R : RT) (k : Int) (F : FT') : Prop := ∀ s v, lk F s = some (some v) → 1 ≤ v ∧ v ≤ k ∧ ∀ x ∈ R, x.1 = s → x.2.all (forcC F v) = true
theorem lk_lap_old {R : RT} {F : FT'} {k : Int} {t : List Int} {j : Int} (h : lk F t = some (some j)) : lk (lapF k (laterC R F) F) t = some (some j) := by
  rw [lk_lapF, if_neg fun z => by
    have := later_no z
    unfold isNo at this
    rw [h] at this
    cases this]
  exact h
theorem lev_step {R : RT} (nd : (R.map (·.1)).Nodup) (k : Int) (F : FT') (hk : 0 ≤ k) (h : Lev R k F) : Lev R (k + 1) (lapF (k + 1) (laterC R F) F) := fun s v e => by
  have up : ∀ v es, forcC F v es = true → forcC (lapF (k + 1) (laterC R F) F) v es = true := fun v es h => by
    unfold forcC at h ⊢
    rw [List.any_eq_true] at h ⊢
    obtain ⟨e, he, h⟩ := h
    refine ⟨e, he, ?_⟩
    cases e with
    | none => rfl
    | some t =>
      simp only at h ⊢
      cases q : lk F t with
      | none => rw [q] at h; cases h
      | some w =>
        rw [q] at h
        cases w with
        | none => cases h
        | some j => rw [lk_lap_old q]; exact h
  have hs := e
  rw [lk_lapF] at e
  by_cases hL : s ∈ laterC R F
  · rw [if_pos hL] at e
    have hv : v = k + 1 := by
      cases q : lk F s with
      | none => rw [q] at e; cases e
      | some w => rw [q] at e; cases e; rfl
    subst hv
    refine ⟨by omega, by omega, fun x hx hxs => ?_⟩
    obtain ⟨y, hy, hys⟩ := List.mem_map.mp hL
    obtain ⟨hy1, hy2⟩ := List.mem_filter.mp hy
    have e1 := lk_get nd hx
    have e2 := lk_get nd hy1
    rw [hxs] at e1
    rw [hys, e1] at e2
    have e3 : x.2 = y.2 := Option.some.inj e2
    rw [e3]
    unfold isLater at hy2
    rw [Bool.and_eq_true, List.all_eq_true] at hy2
    rw [List.all_eq_true]
    intro es hes
    have c := hy2.2 es hes
    unfold canC at c
    unfold forcC
    rw [List.any_eq_true] at c ⊢
    obtain ⟨e, he, c⟩ := c
    refine ⟨e, he, ?_⟩
    cases e with
    | none => rfl
    | some t =>
      simp only at c ⊢
      cases q : lk F t with
      | none => rw [q] at c; cases c
      | some w =>
        rw [q] at c
        cases w with
        | none => cases c
        | some j =>
          rw [lk_lap_old q]
          have := (h t j q).2.1
          exact decide_eq_true (by omega)
  · rw [if_neg hL] at e
    obtain ⟨h1, h2, h3⟩ := h s v e
    refine ⟨h1, by omega, fun x hx hxs => ?_⟩
    have := h3 x hx hxs
    rw [List.all_eq_true] at this ⊢
    exact fun es hes => up v es (this es hes)
theorem lev_of {b m p : Int} {F : FT'} (h : (b, m) ∈ sizes) (hF : lvls b m p = some F) : (∃ k, Lev (RS b m p) k F) ∧ laterC (RS b m p) F = [] := by
  have z := sz_of h
  unfold lvls at hF
  rw [whileC_G] at hF
  obtain ⟨k, ⟨hk, hl⟩, hL⟩ := whileG_inv (fun k F => 0 ≤ k ∧ Lev (RS b m p) k F) (fun k F hP => ⟨by omega, lev_step (by rw [RS_keys]; exact z.nd) k F hP.1 hP.2⟩) 199 ⟨Int.le_refl _, fun s v e => by
    have := lk_F0 (R := RS b m p) (s := s)
    rw [e] at this
    cases this⟩ hF
  exact ⟨⟨k, hl⟩, hL⟩
theorem dueL_is {b m : Int} {F : FT'} (nd : (stS b m).Nodup) (hk : F.map (·.1) = stS b m) : dueL b m F = F := by
  unfold dueL
  rw [← hk, List.map_map]
  have : ∀ x ∈ F, ((fun s => (s, lvO F s)) ∘ fun x : List Int × Option Int => x.1) x = x := fun x hx => by
    show (x.1, lvO F x.1) = x
    unfold lvO
    rw [lk_get (by rw [hk]; exact nd) hx]
    rfl
  rw [List.map_congr_left this]
  exact List.map_id _
theorem shows_due {b m p : Int} {F : FT'} (h : (b, m) ∈ sizes) (hF : lvls b m p = some F) : showsC (dueL b m F) m p = true := by
  have z := sz_of h
  have hk := lvls_keys hF
  rw [dueL_is z.nd hk]
  obtain ⟨⟨k, lv⟩, hL⟩ := lev_of h hF
  have nd : (F.map (·.1)).Nodup := by rw [hk]; exact z.nd
  unfold showsC
  rw [Bool.and_eq_true, List.all_eq_true, List.all_eq_true]
  constructor
  · rintro ⟨s, v⟩ hx
    cases v with
    | none => rfl
    | some v => exact decide_eq_true (lv s v (lk_get nd hx)).1
  · rintro ⟨s, v⟩ hx
    have hs : s ∈ stS b m := hk ▸ List.mem_map.mpr ⟨(s, v), hx, rfl⟩
    have hR : (s, rowsO s m p) ∈ RS b m p := List.mem_map.mpr ⟨s, hs, rfl⟩
    have e := lk_get nd hx
    cases v with
    | some v => exact (lv s v e).2.2 _ hR rfl
    | none =>
      unfold rowOk
      simp only
      cases q : (rowsO s m p).all (canC F) with
      | false => rfl
      | true =>
        have : s ∈ laterC (RS b m p) F := List.mem_map.mpr ⟨(s, rowsO s m p), List.mem_filter.mpr ⟨hR, by
          unfold isLater
          simp only [e, q]
          rfl⟩, rfl⟩
        rw [hL] at this
        cases this
theorem forc_can {F : FT'} {v : Int} {es : List (Option (List Int))} (h : forcC F v es = true) : canC F es = true := by
  unfold forcC at h
  unfold canC
  rw [List.any_eq_true] at h ⊢
  obtain ⟨e, he, h⟩ := h
  refine ⟨e, he, ?_⟩
  cases e with
  | none => rfl
  | some t =>
    simp only at h ⊢
    cases q : lk F t with
    | none => rw [q] at h; cases h
    | some w =>
      rw [q] at h
      cases w with
      | none => cases h
      | some j => rfl
/-- no throw of a lost state is safe -/
theorem lost_none {b m p : Int} {F : FT'} {s : List Int} {k : Int} (h : (b, m) ∈ sizes) (hF : lvls b m p = some F) (hs : s ∈ stS b m) (e : lvO F s = some k) : safeT F s m p = [] := by
  obtain ⟨⟨_, lv⟩, _⟩ := lev_of h hF
  have e' : lk F s = some (some k) := by
    unfold lvO at e
    cases q : lk F s with
    | none => rw [q] at e; cases e
    | some w => rw [q] at e; exact congrArg some e
  have := (lv s k e').2.2 (s, rowsO s m p) (List.mem_map.mpr ⟨s, hs, rfl⟩) rfl
  rw [List.all_eq_true] at this
  unfold safeT
  refine List.filter_eq_nil_iff.mpr fun o ho => ?_
  rw [forc_can (this _ (List.mem_map.mpr ⟨o, ho, rfl⟩))]
  simp
/-! ### greater slips lose more -/
theorem ends_mono {s : List Int} {h m p p' : Int} (hp : p ≤ p') {e : Option (List Int)} (he : e ∈ endsO s h m p) : e ∈ endsO s h m p' := by
  unfold endsO at he ⊢
  split
  · rename_i h0
    rw [if_pos h0] at he
    exact he
  · rename_i h0
    rw [if_neg h0] at he
    obtain ⟨o, ho, rfl⟩ := List.mem_map.mp he
    refine List.mem_map.mpr ⟨o, mem_rngI.mpr ?_, rfl⟩
    have := mem_rngI.mp ho
    have h1 : mxI 1 (h - p') ≤ mxI 1 (h - p) := by unfold mxI; split <;> split <;> omega
    have h2 : mnI m (h + p) ≤ mnI m (h + p') := by unfold mnI; split <;> split <;> omega
    omega
theorem lost_mono {b m p p' : Int} {F F' : FT'} (h : (b, m) ∈ sizes) (hp : p ≤ p') (hF : lvls b m p = some F) (hF' : lvls b m p' = some F') : ∀ s v, lk F s = some (some v) → ∃ w, lk F' s = some (some w) := by
  have hk' := lvls_keys hF'
  obtain ⟨_, hL'⟩ := lev_of h hF'
  unfold lvls at hF
  rw [whileC_G] at hF
  obtain ⟨_, hP, _⟩ := whileG_inv (fun _ F => ∀ s v, lk F s = some (some v) → ∃ w, lk F' s = some (some w)) (fun k F hP s v e => by
    rw [lk_lapF] at e
    by_cases hL : s ∈ laterC (RS b m p) F
    · obtain ⟨y, hy, hys⟩ := List.mem_map.mp hL
      obtain ⟨hy1, hy2⟩ := List.mem_filter.mp hy
      obtain ⟨t, ht, rfl⟩ := List.mem_map.mp hy1
      have hts : t = s := hys
      subst hts
      unfold isLater at hy2
      rw [Bool.and_eq_true, List.all_eq_true] at hy2
      have all' : (rowsO t m p').all (canC F') = true := by
        rw [List.all_eq_true]
        intro es hes
        obtain ⟨o, ho, rfl⟩ := List.mem_map.mp hes
        have c := hy2.2 (endsO t o m p) (List.mem_map.mpr ⟨o, ho, rfl⟩)
        unfold canC at c ⊢
        rw [List.any_eq_true] at c ⊢
        obtain ⟨e, he, c⟩ := c
        refine ⟨e, ends_mono hp he, ?_⟩
        cases e with
        | none => rfl
        | some u =>
          simp only at c ⊢
          cases q : lk F u with
          | none => rw [q] at c; cases c
          | some w =>
            rw [q] at c
            cases w with
            | none => cases c
            | some j =>
              obtain ⟨w, hw⟩ := hP u j q
              rw [hw]
      obtain ⟨v', hv'⟩ := Option.isSome_iff_exists.mp (lk_isSome.mpr (show t ∈ F'.map (·.1) by rw [hk']; exact ht))
      cases v' with
      | some w => exact ⟨w, hv'⟩
      | none =>
        have : t ∈ laterC (RS b m p') F' := List.mem_map.mpr ⟨(t, rowsO t m p'), List.mem_filter.mpr ⟨List.mem_map.mpr ⟨t, ht, rfl⟩, by
          unfold isLater
          simp only [hv', all']
          rfl⟩, rfl⟩
        rw [hL'] at this
        cases this
    · rw [if_neg hL] at e
      exact hP s v e) 199 (fun s v e => by
    have := lk_F0 (R := RS b m p) (s := s)
    rw [e] at this
    cases this) hF
  exact hP
theorem safe_mono {b m p p' : Int} {F F' : FT'} (h : (b, m) ∈ sizes) (hp : p ≤ p') (hF : lvls b m p = some F) (hF' : lvls b m p' = some F') : ∀ s ∈ safeS b m F', s ∈ safeS b m F := fun s hs => by
  obtain ⟨h1, h2⟩ := lvO_safe.mp hs
  refine lvO_safe.mpr ⟨h1, ?_⟩
  cases q : lvO F s with
  | none => rfl
  | some k =>
    have e' : lk F s = some (some k) := by
      unfold lvO at q
      cases q2 : lk F s with
      | none => rw [q2] at q; cases q
      | some w => rw [q2] at q; exact congrArg some q
    obtain ⟨w, hw⟩ := lost_mono h hp hF hF' s k e'
    unfold lvO at h2
    rw [hw] at h2
    cases h2
theorem safe_zero {b m : Int} {F : FT'} (h : (b, m) ∈ sizes) (hF : lvls b m 0 = some F) : safeS b m F = stS b m := by
  have ck := chkG_all _ h
  unfold chkG at ck
  rw [Bool.and_eq_true, List.all_eq_true] at ck
  have hL : laterC (RS b m 0) (F0 (RS b m 0)) = [] := by
    refine List.eq_nil_iff_forall_not_mem.mpr fun s hs => ?_
    obtain ⟨x, hx, rfl⟩ := List.mem_map.mp hs
    obtain ⟨hx1, hx2⟩ := List.mem_filter.mp hx
    obtain ⟨s, hs1, rfl⟩ := List.mem_map.mp hx1
    unfold isLater at hx2
    rw [Bool.and_eq_true, List.all_eq_true] at hx2
    have c2 := ck.2 s hs1
    rw [List.any_eq_true] at c2
    obtain ⟨o, ho, hall⟩ := c2
    have c := hx2.2 (endsO s o m 0) (List.mem_map.mpr ⟨o, ho, rfl⟩)
    unfold canC at c
    rw [List.any_eq_true] at c
    obtain ⟨e, he, c⟩ := c
    rw [List.all_eq_true] at hall
    cases e with
    | none => exact absurd (hall none he) (by simp)
    | some t =>
      simp only at c
      have := lk_F0 (R := RS b m 0) (s := t)
      cases q : lk (F0 (RS b m 0)) t with
      | none => rw [q] at c; cases c
      | some v =>
        rw [q] at c this
        cases v with
        | none => cases c
        | some k => cases this
  have : F = F0 (RS b m 0) := by
    unfold lvls at hF
    have e : (199 : Nat) = 198 + 1 := rfl
    rw [e] at hF
    unfold whileC at hF
    rw [if_pos hL] at hF
    exact (Option.some.inj hF).symm
  rw [this]
  unfold safeS
  refine List.filter_eq_self.mpr fun s _ => ?_
  unfold lvO
  have := lk_F0 (R := RS b m 0) (s := s)
  cases q : lk (F0 (RS b m 0)) s with
  | none => rfl
  | some v =>
    rw [q] at this
    have : v = none := this
    rw [this]
    rfl
end Law
namespace DL
open PySem L2
theorem fgPair {i j : Nat} {a b : D} {env : En} {s t : Sl} (h1 : env[i]? = some s) (m1 : s.mine = true) (h2 : (env.set i (.val a))[j]? = some t) (m2 : t.mine = true) : (fgCons (setE i) (fgCons (setE j) fgNil)) [a, b] env = some ((env.set i (.val a)).set j (.val b)) := by
  unfold fgCons
  simp only [setE_mine h1 m1]
  simp only [setE_mine h2 m2]
  rfl
theorem feand_tt {f g : FE} {env e : En} {o : Option (D × En)} (h : f env = some (.bl true, e)) (h2 : g e = o) : feAnd f g env = o := by
  unfold feAnd
  rw [h]
  exact h2
theorem feand_ff {f g : FE} {env e : En} (h : f env = some (.bl false, e)) : feAnd f g env = some (.bl false, e) := by
  unfold feAnd
  rw [h]
theorem feor_ff {f g : FE} {env e : En} {o : Option (D × En)} (h : f env = some (.bl false, e)) (h2 : g e = o) : feOr f g env = o := by
  unfold feOr
  rw [h]
  exact h2
theorem feor_tt {f g : FE} {env e : En} (h : f env = some (.bl true, e)) : feOr f g env = some (.bl true, e) := by
  unfold feOr
  rw [h]
theorem eq_nil (L : List Int) : gEq (.lst (L.map D.int)) (.lst []) = some (.bl (decide (L = []))) := by
  have h1 := (flat_lst (k := 0) (ds := L.map D.int) flatD_ints).shaped (by decide)
  have h2 : SeqAt.shaped (py (.lst [])) = true := rfl
  unfold gEq gEqB
  simp only [h1, h2, Bool.and_self, if_true, Option.map_some]
  cases L with
  | nil => rfl
  | cons s L => rfl
end DL
namespace Law
open PySem L2 DL
theorem grow_cl {b m p : Int} {s : List Int} {r : GRow} (h : (b, m) ∈ sizes) (hs : s ∈ stS b m) (hr : r ∈ growG s m p) : ∀ t, some t ∈ r.2 → t ∈ stS b m := fun t ht => by
  have z := sz_of h
  rw [growG_is h hs] at hr
  obtain ⟨o, ho, rfl⟩ := List.mem_map.mp hr
  obtain ⟨k, k0, km, e⟩ := endsO_mem (throwsO_mem z.m0 ho) ht
  exact z.cl s hs k k0 km t e
def okT (V : FT') (m p : Int) (s : List Int) : Bool := beatsOk (lvO V s) && rowOk V m p (s, lvO V s)
def rE (G : GT) (V : FT') (s3 s4 s5 s6 s7 s8 s9 : Sl) : En := [.val (dF gmD G), .val (.ptp (V.map rowD)), .val (dF lvD V), s3, s4, s5, s6, s7, s8, s9, .un]
abbrev forcedT : FE := fComp (fiSeq (fVar 7)) (setE 10) fYes (feOr (fOp2 gIs (fLv 10) (fLd (fC .non))) (feAnd (fOp2 gIsNot (fLd (fOp2 gIx (fLv 2) (fLv 10))) (fLd (fC .non))) (feAnd (fOp2 gIsNot (fLv 5) (fLd (fC .non))) (fOp2 gLt (fLd (fOp2 gIx (fLv 2) (fLv 10))) (fLv 5))))) [10]
def fcT (V : FT') (v : Option Int) (e : Option (List Int)) : Bool := match e with
  | none => true
  | some t => match lvO V t, v with
    | some j, some k => decide (j < k)
    | _, _ => false
theorem forcedT_ok {G : GT} {V : FT'} {v : Option Int} {s3 s4 s6 s8 s9 : Sl} {es : List (Option (List Int))} (hl : es.length ≤ 1000) (hc : ∀ t, some t ∈ es → t ∈ V.map (·.1)) :
    forcedT (rE G V s3 s4 (.val (lvD v)) s6 (.val (endsD es)) s8 s9) = some (.lst (es.map fun e => .bl (fcT V v e)), rE G V s3 s4 (.val (lvD v)) s6 (.val (endsD es)) s8 s9) := by
  exact fComp_all (ι := oD) (xs := es) (fun e => .bl (fcT V v e)) (fun e => (rE G V s3 s4 (.val (lvD v)) s6 (.val (endsD es)) s8 s9).set 10 (.val (oD e))) rfl (Nat.le_trans hl (by decide)) rfl rfl rfl fun e he => ⟨rfl, rfl, rfl, by
    cases e with
    | none => exact feor_tt rfl
    | some t =>
      have ht := lk_lvO (hc t he)
      generalize hE : (rE G V s3 s4 (.val (lvD v)) s6 (.val (endsD es)) s8 s9).set 10 (.val (oD (some t))) = env
      have i2 : fOp2 gIx (fLv 2) (fLv 10) env = some (lvD (lvO V t), env) := by
        rw [← hE]
        exact op2_of rfl rfl rfl rfl (by
          show gIx (dF lvD V) (tupI t) = _
          rw [ix_F, ht]; rfl)
      have o1 : fOp2 gIs (fLv 10) (fLd (fC .non)) env = some (.bl false, env) := by rw [← hE]; rfl
      have o5 : fOp2 gIsNot (fLv 5) (fLd (fC .non)) env = some (.bl v.isSome, env) := by rw [← hE]; cases v <;> rfl
      have o2 : fOp2 gIsNot (fLd (fOp2 gIx (fLv 2) (fLv 10))) (fLd (fC .non)) env = some (.bl (lvO V t).isSome, env) := op2_of (fLd_of i2) rfl rfl rfl (by cases lvO V t <;> rfl)
      refine feor_ff o1 ?_
      unfold fcT
      simp only
      cases q : lvO V t with
      | none => rw [q] at o2; exact feand_ff o2
      | some j =>
        rw [q] at o2 i2
        refine feand_tt o2 ?_
        cases v with
        | none => exact feand_ff o5
        | some k =>
          refine feand_tt o5 ?_
          exact op2_of (fLd_of i2) (show fLv 5 env = some (.inl 5, env) by rw [← hE]; rfl) rfl (show res env (.inl 5) = some (.int k) by rw [← hE]; rfl) rfl⟩
theorem fcT_forc {V : FT'} {k : Int} {es : List (Option (List Int))} (hc : ∀ t, some t ∈ es → t ∈ V.map (·.1)) : es.any (fcT V (some k)) = forcC V k es := by
  unfold forcC
  rw [Bool.eq_iff_iff, List.any_eq_true, List.any_eq_true]
  have : ∀ e ∈ es, fcT V (some k) e = (match e with
    | none => true
    | some s => match lk V s with
      | some (some j) => decide (j < k)
      | _ => false) := fun e he => by
    cases e with
    | none => rfl
    | some t =>
      unfold fcT
      simp only [lk_lvO (hc t he)]
      cases lvO V t <;> rfl
  exact ⟨fun ⟨e, he, h⟩ => ⟨e, he, (this e he).symm.trans h⟩, fun ⟨e, he, h⟩ => ⟨e, he, (this e he).trans h⟩⟩
abbrev bodyT1 : FS := fSeq (fSet 8 forcedT) (fIf (ftAnd (fTest (fOp2 gIsNot (fLv 5) (fLd (fC .non)))) (ftNot (fTest (fB gAny (flCons (fLv 8) flNil))))) (fRet (fC (.bl false))) fSkip)
theorem bodyT1_ok {G : GT} {V : FT'} {v : Option Int} {s3 s4 s6 s8 s9 : Sl} {es : List (Option (List Int))} (hl : es.length ≤ 1000) (hc : ∀ t, some t ∈ es → t ∈ V.map (·.1)) (m8 : s8.mine = true) :
    bodyT1 (rE G V s3 s4 (.val (lvD v)) s6 (.val (endsD es)) s8 s9) = some (if v.isNone || es.any (fcT V v) then .nx (rE G V s3 s4 (.val (lvD v)) s6 (.val (endsD es)) (.val (.lst (es.map fun e => .bl (fcT V v e)))) s9) else .rt false (.bl false) (rE G V s3 s4 (.val (lvD v)) s6 (.val (endsD es)) (.val (.lst (es.map fun e => .bl (fcT V v e)))) s9)) := by
  have a1 := set_of (i := 8) (forcedT_ok (G := G) (V := V) (v := v) (s3 := s3) (s4 := s4) (s6 := s6) (s8 := s8) (s9 := s9) hl hc) (setE_mine rfl m8)
  refine seq_nx a1 ?_
  show (fIf (ftAnd (fTest (fOp2 gIsNot (fLv 5) (fLd (fC .non)))) (ftNot (fTest (fB gAny (flCons (fLv 8) flNil))))) (fRet (fC (.bl false))) fSkip) (rE G V s3 s4 (.val (lvD v)) s6 (.val (endsD es)) (.val (.lst (es.map fun e => .bl (fcT V v e)))) s9) = _
  generalize hE : rE G V s3 s4 (.val (lvD v)) s6 (.val (endsD es)) (.val (.lst (es.map fun e => .bl (fcT V v e)))) s9 = env
  have t1 : fTest (fOp2 gIsNot (fLv 5) (fLd (fC .non))) env = some (v.isSome, env) := by rw [← hE]; cases v <;> rfl
  have t2 : ftNot (fTest (fB gAny (flCons (fLv 8) flNil))) env = some (!es.any (fcT V v), env) := by
    rw [← hE]
    unfold ftNot
    rw [test_of' (k := es.any (fcT V v)) (fB1_of rfl rfl (by
      rw [show (es.map fun e => D.bl (fcT V v e)) = (es.map (fcT V v)).map D.bl by rw [List.map_map]; rfl, any_bls, List.any_map]
      rfl))]
    rfl
  cases v with
  | none => exact if_ff (and_ff t1) rfl
  | some k =>
    cases q : es.any (fcT V (some k)) with
    | true => rw [q] at t2; exact if_ff (and_tt t1 t2) rfl
    | false => rw [q] at t2; exact if_tt (and_tt t1 t2) rfl
abbrev allT : FE := fB gAll (flCons (fLd (fComp (fiSeq (fVar 7)) (setE 10) fYes (feAnd (fOp2 gIsNot (fLv 10) (fLd (fC .non))) (fOp2 gIs (fLd (fOp2 gIx (fLv 2) (fLv 10))) (fLd (fC .non)))) [10])) flNil)
theorem allT_ok {G : GT} {V : FT'} {s3 s4 s5 s6 s8 s9 : Sl} {es : List (Option (List Int))} (hl : es.length ≤ 1000) (hc : ∀ t, some t ∈ es → t ∈ V.map (·.1)) :
    allT (rE G V s3 s4 s5 s6 (.val (endsD es)) s8 s9) = some (.bl (!canC V es), rE G V s3 s4 s5 s6 (.val (endsD es)) s8 s9) := by
  have c := fComp_all (ι := oD) (xs := es) (fun e => .bl (match e with
      | none => false
      | some t => (lvO V t).isNone)) (fun e => (rE G V s3 s4 s5 s6 (.val (endsD es)) s8 s9).set 10 (.val (oD e))) (fi := fiSeq (fVar 7)) (g := setE 10) (f := feAnd (fOp2 gIsNot (fLv 10) (fLd (fC .non))) (fOp2 gIs (fLd (fOp2 gIx (fLv 2) (fLv 10))) (fLd (fC .non)))) (vs := [10]) (env := rE G V s3 s4 s5 s6 (.val (endsD es)) s8 s9) (env1 := rE G V s3 s4 s5 s6 (.val (endsD es)) s8 s9) rfl (Nat.le_trans hl (by decide)) rfl rfl rfl fun e he => ⟨rfl, rfl, rfl, by
    cases e with
    | none => exact feand_ff rfl
    | some t =>
      have ht := lk_lvO (hc t he)
      generalize hE : (rE G V s3 s4 s5 s6 (.val (endsD es)) s8 s9).set 10 (.val (oD (some t))) = env
      have i2 : fOp2 gIx (fLv 2) (fLv 10) env = some (lvD (lvO V t), env) := by
        rw [← hE]
        exact op2_of rfl rfl rfl rfl (by
          show gIx (dF lvD V) (tupI t) = _
          rw [ix_F, ht]; rfl)
      have o1 : fOp2 gIsNot (fLv 10) (fLd (fC .non)) env = some (.bl true, env) := by rw [← hE]; rfl
      refine feand_tt o1 ?_
      exact op2_of (fLd_of i2) rfl rfl rfl (by
        show gIs (lvD (lvO V t)) .non = some (.bl (lvO V t).isNone)
        cases lvO V t <;> rfl)⟩
  refine fB1_of (fLd_of c) rfl ?_
  rw [show (es.map fun e => D.bl (match e with
      | none => false
      | some t => (lvO V t).isNone)) = (es.map fun e => (match e with
      | none => false
      | some t => (lvO V t).isNone)).map D.bl by rw [List.map_map]; rfl, all_bls, List.all_map]
  congr 2
  rw [Bool.eq_iff_iff, List.all_eq_true]
  unfold canC
  rw [Bool.not_eq_true', List.any_eq_false]
  have : ∀ e ∈ es, ((match e with
      | none => false
      | some t => (lvO V t).isNone) = true ↔ ¬ (match e with
    | none => true
    | some s => match lk V s with
      | some (some _) => true
      | _ => false) = true) := fun e he => by
    cases e with
    | none => simp
    | some t =>
      simp only [lk_lvO (hc t he)]
      cases lvO V t <;> simp
  exact ⟨fun h e he => (this e he).mp (h e he), fun h e he => (this e he).mpr (h e he)⟩
abbrev fineT : FE := fComp (fiSeq (fVar 4)) (fgTup (fgCons (setE 6) (fgCons (setE 7) fgNil)) 2) (fTest allT) (fVar 6) [6, 7]
abbrev bodyT : FS := (fSeq (fSet 5 (fOp2 gIx (fLv 2) (fLv 3)))
    (fSeq (fIf (ftAnd (fTest (fOp2 gIsNot (fLv 5) (fLd (fC .non)))) (fTest (fOp2 gLt (fLv 5) (fLd (fC (.int 1))))))
    (fRet (fC (.bl false)))
    fSkip)
    (fSeq (fFor (fiSeq (fVar 4)) (fgTup (fgCons (setE 6) (fgCons (setE 7) fgNil)) 2) bodyT1)
    (fIf (fTest (fOp2 gIs (fLv 5) (fLd (fC .non))))
    (fSeq (fSet 9 fineT)
    (fIf (fTest (fOp2 gEq (fLv 9) (fLd (fLst faNil))))
    (fRet (fC (.bl false)))
    fSkip))
    fSkip))))
theorem bodyT_ok {b m p : Int} {V : FT'} {s : List Int} {s5 s6 s7 s8 s9 : Sl} (h : (b, m) ∈ sizes) (hp : 0 ≤ p ∧ p ≤ 5) (hV : V.map (·.1) = stS b m) (hs : s ∈ stS b m) (m5 : s5.mine = true) (m6 : s6.mine = true) (m7 : s7.mine = true) (m8 : s8.mine = true) (m9 : s9.mine = true) :
    ∃ t5 t6 t7 t8 t9, t5.mine = true ∧ t6.mine = true ∧ t7.mine = true ∧ t8.mine = true ∧ t9.mine = true ∧
      bodyT (rE (GS b m p) V (.val (tupI s)) (.val (gmD (growG s m p))) s5 s6 s7 s8 s9) = some (if okT V m p s then .nx (rE (GS b m p) V (.val (tupI s)) (.val (gmD (growG s m p))) t5 t6 t7 t8 t9) else .rt false (.bl false) (rE (GS b m p) V (.val (tupI s)) (.val (gmD (growG s m p))) t5 t6 t7 t8 t9)) := by
  obtain ⟨_, gl, gr⟩ := GS_get h hp hs
  have gc : ∀ r ∈ growG s m p, ∀ t, some t ∈ r.2 → t ∈ V.map (·.1) := fun r hr => by rw [hV]; exact grow_cl h hs hr
  generalize hG : GS b m p = G
  have hv : lk V s = some (lvO V s) := lk_lvO (by rw [hV]; exact hs)
  unfold okT
  generalize hx : lvO V s = v at hv
  have a5 : fSet 5 (fOp2 gIx (fLv 2) (fLv 3)) (rE G V (.val (tupI s)) (.val (gmD (growG s m p))) s5 s6 s7 s8 s9) = some (.nx (rE G V (.val (tupI s)) (.val (gmD (growG s m p))) (.val (lvD v)) s6 s7 s8 s9)) :=
    set_of (op2_of rfl rfl rfl rfl (by
      show gIx (dF lvD V) (tupI s) = _
      rw [ix_F, hv]; rfl)) (setE_mine rfl m5)
  have loop : ∃ t6 t7 t8, t6.mine = true ∧ t7.mine = true ∧ t8.mine = true ∧ fFor (fiSeq (fVar 4)) (fgTup (fgCons (setE 6) (fgCons (setE 7) fgNil)) 2) bodyT1 (rE G V (.val (tupI s)) (.val (gmD (growG s m p))) (.val (lvD v)) s6 s7 s8 s9)
      = some (if (growG s m p).all (fun r => v.isNone || r.2.any (fcT V v)) then .nx (rE G V (.val (tupI s)) (.val (gmD (growG s m p))) (.val (lvD v)) t6 t7 t8 s9) else .rt false (.bl false) (rE G V (.val (tupI s)) (.val (gmD (growG s m p))) (.val (lvD v)) t6 t7 t8 s9)) := by
    obtain ⟨e2, hl, t6, t7, t8, n6, n7, n8, rfl⟩ := loopD_ret (α := GRow) (ι := rowG) (g := fgTup (fgCons (setE 6) (fgCons (setE 7) fgNil)) 2) (f := bodyT1) (fun r => v.isNone || r.2.any (fcT V v))
      (fun env => ∃ t6 t7 t8 : Sl, t6.mine = true ∧ t7.mine = true ∧ t8.mine = true ∧ env = rE G V (.val (tupI s)) (.val (gmD (growG s m p))) (.val (lvD v)) t6 t7 t8 s9) (fr := false) (d := .bl false) (xs := growG s m p) (env := rE G V (.val (tupI s)) (.val (gmD (growG s m p))) (.val (lvD v)) s6 s7 s8 s9) (fun r hr env he => by
        obtain ⟨t6, t7, t8, n6, n7, n8, rfl⟩ := he
        exact ⟨rE G V (.val (tupI s)) (.val (gmD (growG s m p))) (.val (lvD v)) (.val (.int r.1)) (.val (endsD r.2)) t8 s9, fgPair rfl n6 rfl n7, _, bodyT1_ok (gr r hr) (gc r hr) n8, .val (.int r.1), .val (endsD r.2), _, rfl, rfl, rfl, rfl⟩) ⟨s6, s7, s8, m6, m7, m8, rfl⟩
    exact ⟨t6, t7, t8, n6, n7, n8, forD_of rfl hl⟩
  obtain ⟨t6, t7, t8, n6, n7, n8, lp⟩ := loop
  cases v with
  | some k =>
    have u1 : fTest (fOp2 gIsNot (fLv 5) (fLd (fC .non))) (rE G V (.val (tupI s)) (.val (gmD (growG s m p))) (.val (lvD (some k))) s6 s7 s8 s9) = some (true, rE G V (.val (tupI s)) (.val (gmD (growG s m p))) (.val (lvD (some k))) s6 s7 s8 s9) := rfl
    have u2 : fTest (fOp2 gLt (fLv 5) (fLd (fC (.int 1)))) (rE G V (.val (tupI s)) (.val (gmD (growG s m p))) (.val (lvD (some k))) s6 s7 s8 s9) = some (decide (k < 1), rE G V (.val (tupI s)) (.val (gmD (growG s m p))) (.val (lvD (some k))) s6 s7 s8 s9) := rfl
    have gall : (growG s m p).all (fun r => (some k).isNone || r.2.any (fcT V (some k))) = rowOk V m p (s, some k) := by
      show (growG s m p).all (fun r => false || r.2.any (fcT V (some k))) = (rowsO s m p).all (forcC V k)
      rw [← grow_all h hs (forcC V k)]
      rw [Bool.eq_iff_iff, List.all_eq_true, List.all_eq_true]
      exact ⟨fun z r hr => by rw [← fcT_forc (gc r hr)]; simpa using z r hr, fun z r hr => by rw [Bool.false_or, fcT_forc (gc r hr)]; exact z r hr⟩
    by_cases hk : k < 1
    · rw [decide_eq_true hk] at u2
      refine ⟨.val (lvD (some k)), s6, s7, s8, s9, rfl, m6, m7, m8, m9, ?_⟩
      rw [show beatsOk (some k) = false from decide_eq_false (by omega), Bool.false_and, if_neg Bool.false_ne_true]
      exact seq_nx a5 (seq_rt (if_tt (and_tt u1 u2) rfl))
    · rw [decide_eq_false hk] at u2
      refine ⟨.val (lvD (some k)), t6, t7, t8, s9, rfl, n6, n7, n8, m9, ?_⟩
      rw [show beatsOk (some k) = true from decide_eq_true (by omega), Bool.true_and, ← gall]
      refine seq_nx a5 (seq_nx (if_ff (and_tt u1 u2) rfl) ?_)
      cases q : (growG s m p).all (fun r => (some k).isNone || r.2.any (fcT V (some k))) with
      | true =>
        rw [q, if_pos rfl] at lp
        exact seq_nx lp (if_ff (show _ = some (false, rE G V (.val (tupI s)) (.val (gmD (growG s m p))) (.val (lvD (some k))) t6 t7 t8 s9) from rfl) rfl)
      | false =>
        rw [q, if_neg Bool.false_ne_true] at lp
        exact seq_rt lp
  | none =>
    have u1 : fTest (fOp2 gIsNot (fLv 5) (fLd (fC .non))) (rE G V (.val (tupI s)) (.val (gmD (growG s m p))) (.val (lvD none)) s6 s7 s8 s9) = some (false, rE G V (.val (tupI s)) (.val (gmD (growG s m p))) (.val (lvD none)) s6 s7 s8 s9) := rfl
    have e1 : (growG s m p).all (fun r => (none : Option Int).isNone || r.2.any (fcT V none)) = true := by
      rw [List.all_eq_true]
      exact fun r _ => rfl
    rw [e1, if_pos rfl] at lp
    have fine : ∃ t6' t7', t6'.mine = true ∧ t7'.mine = true ∧ fineT (rE G V (.val (tupI s)) (.val (gmD (growG s m p))) (.val (lvD none)) t6 t7 t8 s9) = some (.lst ((((growG s m p).filter fun r => !canC V r.2).map (·.1)).map D.int), rE G V (.val (tupI s)) (.val (gmD (growG s m p))) (.val (lvD none)) t6' t7' t8 s9) := by
      have keep : ∀ t : Sl, t.mine = true → (keepS (some t)).mine = true := fun t ht => by
        cases t with
        | un => rfl
        | val d => rfl
        | own io d => rfl
      refine ⟨keepS (some t6), keepS (some t7), keep _ n6, keep _ n7, ?_⟩
      have := fComp_on (ι := rowG) (xs := growG s m p) (fun r => !canC V r.2) (fun r => .int r.1) (fun r => rE G V (.val (tupI s)) (.val (gmD (growG s m p))) (.val (lvD none)) (.val (.int r.1)) (.val (endsD r.2)) t8 s9) (fi := fiSeq (fVar 4)) (g := fgTup (fgCons (setE 6) (fgCons (setE 7) fgNil)) 2) (t := fTest allT) (f := fVar 6) (vs := [6, 7]) (env := rE G V (.val (tupI s)) (.val (gmD (growG s m p))) (.val (lvD none)) t6 t7 t8 s9) (env1 := rE G V (.val (tupI s)) (.val (gmD (growG s m p))) (.val (lvD none)) t6 t7 t8 s9) rfl (Nat.le_trans gl (by decide)) (by
          show (t6.mine && (t7.mine && true)) = true
          rw [n6, n7]; rfl) rfl rfl fun r hr => ⟨rfl, test_of' (allT_ok (gr r hr) (gc r hr)), rfl, rfl, fun _ => rfl⟩
      rw [show fineT (rE G V (.val (tupI s)) (.val (gmD (growG s m p))) (.val (lvD none)) t6 t7 t8 s9) = _ from this, List.map_map]
      rfl
    obtain ⟨t6', t7', n6', n7', fine⟩ := fine
    have a9 := set_of (i := 9) fine (setE_mine rfl m9)
    refine ⟨.val (lvD none), t6', t7', t8, .val (.lst ((((growG s m p).filter fun r => !canC V r.2).map (·.1)).map D.int)), rfl, n6', n7', n8, rfl, ?_⟩
    have u3 : fTest (fOp2 gEq (fLv 9) (fLd (fLst faNil))) (rE G V (.val (tupI s)) (.val (gmD (growG s m p))) (.val (lvD none)) t6' t7' t8 (.val (.lst ((((growG s m p).filter fun r => !canC V r.2).map (·.1)).map D.int)))) = some (decide (((growG s m p).filter fun r => !canC V r.2).map (·.1) = []), rE G V (.val (tupI s)) (.val (gmD (growG s m p))) (.val (lvD none)) t6' t7' t8 (.val (.lst ((((growG s m p).filter fun r => !canC V r.2).map (·.1)).map D.int)))) := test_op2 rfl rfl rfl rfl (eq_nil _)
    have gall : rowOk V m p (s, none) = !decide (((growG s m p).filter fun r => !canC V r.2).map (·.1) = []) := by
      show (!((rowsO s m p).all (canC V))) = _
      rw [← grow_all h hs (canC V)]
      congr 1
      rw [Bool.eq_iff_iff, List.all_eq_true, decide_eq_true_eq, List.map_eq_nil_iff, List.filter_eq_nil_iff]
      exact ⟨fun z r hr => by rw [z r hr]; simp, fun z r hr => by simpa using z r hr⟩
    rw [show beatsOk none = true from rfl, Bool.true_and, gall]
    refine seq_nx a5 (seq_nx (if_ff (and_ff u1) rfl) (seq_nx lp (if_tt (show _ = some (true, rE G V (.val (tupI s)) (.val (gmD (growG s m p))) (.val (lvD none)) t6 t7 t8 s9) from rfl) (seq_nx a9 ?_))))
    cases q : decide (((growG s m p).filter fun r => !canC V r.2).map (·.1) = []) with
    | true => rw [q] at u3; exact if_tt u3 rfl
    | false => rw [q] at u3; exact if_ff u3 rfl
theorem sp_law_is_told_right {b m p : Int} {V : FT'} (h : (b, m) ∈ sizes) (hp : 0 ≤ p ∧ p ≤ 5) (hV : V.map (·.1) = stS b m) : Gives N__law_is_told_right [dF gmD (GS b m p), .ptp (V.map rowD)] false (.bl (showsC V m p)) := by
  have z := sz_of h
  have lV : V.length = (stS b m).length := by rw [← hV, List.length_map]
  have gd : gDict [.lst (V.map rowD)] = some (dF lvD V) := gDict_rows (by rw [hV]; exact z.nd) (by rw [lV]; exact Nat.le_trans z.len (by decide))
  have a2 : fSet 2 (fB gDict (flCons (fLd (fB gList (flCons (fLv 1) flNil))) flNil)) [.val (dF gmD (GS b m p)), .val (.ptp (V.map rowD)), .un, .un, .un, .un, .un, .un, .un, .un, .un] = some (.nx (rE (GS b m p) V .un .un .un .un .un .un .un)) :=
    set_of (fB1_of (fLd_of (fB1_of rfl rfl rfl)) rfl gd) rfl
  obtain ⟨e2, hl, _⟩ := loopD_ret (α := List Int × List GRow) (ι := fun x => D.tup [tupI x.1, gmD x.2]) (g := fgTup (fgCons (setE 3) (fgCons (setE 4) fgNil)) 2) (f := bodyT) (fun x => okT V m p x.1)
    (fun env => ∃ s3 s4 s5 s6 s7 s8 s9 : Sl, s3.mine = true ∧ s4.mine = true ∧ s5.mine = true ∧ s6.mine = true ∧ s7.mine = true ∧ s8.mine = true ∧ s9.mine = true ∧ env = rE (GS b m p) V s3 s4 s5 s6 s7 s8 s9) (fr := false) (d := .bl false) (xs := GS b m p) (env := rE (GS b m p) V .un .un .un .un .un .un .un) (fun x hx env he => by
      obtain ⟨s3, s4, s5, s6, s7, s8, s9, m3, m4, m5, m6, m7, m8, m9, rfl⟩ := he
      obtain ⟨s, hs, rfl⟩ := List.mem_map.mp hx
      obtain ⟨t5, t6, t7, t8, t9, n5, n6, n7, n8, n9, hb⟩ := bodyT_ok (p := p) h hp hV hs m5 m6 m7 m8 m9
      exact ⟨rE (GS b m p) V (.val (tupI s)) (.val (gmD (growG s m p))) s5 s6 s7 s8 s9, fgPair rfl m3 rfl m4, _, hb, _, _, t5, t6, t7, t8, t9, rfl, rfl, n5, n6, n7, n8, n9, rfl⟩) ⟨.un, .un, .un, .un, .un, .un, .un, rfl, rfl, rfl, rfl, rfl, rfl, rfl, rfl⟩
  have hfor : fFor (fiItems 0) (fgTup (fgCons (setE 3) (fgCons (setE 4) fgNil)) 2) bodyT (rE (GS b m p) V .un .un .un .un .un .un .un) = some (if (GS b m p).all (fun x => okT V m p x.1) then .nx e2 else .rt false (.bl false) e2) := forD_of (items_F gmD 0 rfl) hl
  have eq : (GS b m p).all (fun x => okT V m p x.1) = showsC V m p := by
    unfold GS showsC
    rw [List.all_map]
    have e := dueL_is z.nd hV
    have a1 : (V.all fun x => beatsOk x.2) = (stS b m).all fun s => beatsOk (lvO V s) := by
      conv => lhs; rw [← e]
      unfold dueL
      rw [List.all_map]
      rfl
    have a2 : V.all (rowOk V m p) = (stS b m).all fun s => rowOk V m p (s, lvO V s) := by
      have : ∀ P : List Int × Option Int → Bool, V.all P = (stS b m).all fun s => P (s, lvO V s) := fun P => by
        conv => lhs; rw [← e]
        unfold dueL
        rw [List.all_map]
        rfl
      exact this _
    have an : ∀ (P Q : List Int → Bool) (L : List (List Int)), (L.all fun s => P s && Q s) = (L.all P && L.all Q) := fun P Q L => by
      induction L with
      | nil => rfl
      | cons s L ih => rw [List.all_cons, List.all_cons, List.all_cons, ih]; cases P s <;> cases Q s <;> simp
    rw [a1, a2, ← an]
    rfl
  refine gives_run (e := e2) rfl ?_
  show f__law_is_told_right [.val (dF gmD (GS b m p)), .val (.ptp (V.map rowD)), .un, .un, .un, .un, .un, .un, .un, .un, .un] = _
  unfold f__law_is_told_right
  refine seq_nx a2 ?_
  rw [← eq]
  cases q : (GS b m p).all (fun x => okT V m p x.1) with
  | true =>
    rw [q, if_pos rfl] at hfor
    exact seq_nx hfor rfl
  | false =>
    rw [q, if_neg Bool.false_ne_true] at hfor
    exact seq_rt hfor
end Law
namespace DL
open PySem L2
/-- data that shows itself shortly: at most w its weight -/
structure Neat (w : Nat) (d : D) : Prop where
  sh : (py d).showable = true
  lv : (py d).leavesShort 8 = true
  wt : (py d).weight ≤ w
theorem neat_all {w : Nat} : ∀ {ds : List D}, (∀ d ∈ ds, Neat w d) → PyData.showableAll (pys ds) = true ∧ PyData.leavesShortAll 8 (pys ds) = true ∧ PyData.weightAll (pys ds) ≤ ds.length * (w + 1)
  | [], _ => ⟨rfl, rfl, Nat.zero_le _⟩
  | d :: ds, h => by
    obtain ⟨h1, h2, h3⟩ := h d List.mem_cons_self
    obtain ⟨i1, i2, i3⟩ := neat_all (ds := ds) fun x hx => h x (List.mem_cons_of_mem _ hx)
    rw [pys]
    refine ⟨by rw [PyData.showableAll, h1, i1]; rfl, by rw [PyData.leavesShortAll, h2, i2]; rfl, ?_⟩
    rw [PyData.weightAll, List.length_cons, Nat.add_mul]
    omega
theorem neat_tup {w n k : Nat} {ds : List D} (h : ∀ d ∈ ds, Neat w d) (hl : ds.length ≤ n) (hk : n * (w + 1) ≤ k) : Neat k (.tup ds) := by
  obtain ⟨h1, h2, h3⟩ := neat_all h
  have := Nat.mul_le_mul_right (w + 1) hl
  refine ⟨by rw [py, PyData.showable]; exact h1, by rw [py, PyData.leavesShort]; exact h2, ?_⟩
  rw [py, PyData.weight]
  omega
theorem neat_ints : ∀ i ∈ List.range 256, (PyData.int (i : Nat)).showable = true ∧ (PyData.int (i : Nat)).leavesShort 8 = true ∧ (PyData.int (i : Nat)).weight ≤ 8 := by decide +kernel
theorem neat_int {i : Int} (h0 : 0 ≤ i) (h : i < 256) : Neat 8 (.int i) := by
  have := neat_ints i.toNat (List.mem_range.mpr (by omega))
  rw [Int.toNat_of_nonneg h0] at this
  exact ⟨this.1, this.2.1, this.2.2⟩
theorem neat_non : Neat 8 .non := ⟨rfl, rfl, Nat.zero_le _⟩
theorem repr_of {w k : Nat} {ds : List D} (h : Neat w (.tup ds)) (hw : w ≤ 90000) (hf : Flat k (.tup ds)) (hk : k ≤ 64) : gRepr [.tup ds] = some (.str (py (.tup ds)).shown) ∧ gRepr [.ptp ds] = some (.str (py (.tup ds)).shown) := by
  have l := PyData.shown_le 8 (by decide) (py (.tup ds)) h.lv
  have hl : (py (.tup ds)).shown.length ≤ mx := Nat.le_trans l (by
    have := h.wt
    have : (900008 : Nat) ≤ mx := by decide
    omega)
  have c : ((py (.tup ds)).showable && SeqAt.shaped (py (.tup ds)) && decide ((py (.tup ds)).shown.length ≤ mx)) = true := by
    rw [h.sh, hf.shaped hk, decide_eq_true hl]
    rfl
  constructor
  · show (if _ then _ else none) = _
    rw [if_pos c]
  · show (if _ then _ else none) = _
    rw [if_pos (show ((py (.ptp ds)).showable && SeqAt.shaped (py (.ptp ds)) && decide ((py (.ptp ds)).shown.length ≤ mx)) = true from c)]
    rfl
theorem ne_str (x : Str) : gNe (.str x) (.str x) = some (.bl false) := by
  show some (D.bl (!decide (x = x))) = _
  rw [decide_eq_true rfl]
  rfl
theorem eq_str (x : Str) : gEq (.str x) (.str x) = some (.bl true) := by
  show some (D.bl (decide (x = x))) = _
  rw [decide_eq_true rfl]
theorem ne_tup {k : Nat} {ds : List D} (hf : Flat k (.tup ds)) (hk : k ≤ 64) : gNe (.tup ds) (.tup ds) = some (.bl false) := by
  have h := hf.shaped hk
  show (if SeqAt.shaped (py (.tup ds)) && SeqAt.shaped (py (.tup ds)) then some (PyData.eqv (py (.tup ds)) (py (.tup ds))) else none).map (fun k => D.bl (!k)) = _
  rw [h, SeqAt.eqv_refl _ hf.1]
  rfl
theorem repr_bl (b : Bool) : ∃ t, gRepr [.bl b] = some (.str t) := by
  cases b
  · exact ⟨_, (if_pos (by decide +kernel) : (if (py (.bl false)).showable && SeqAt.shaped (py (.bl false)) && decide ((py (.bl false)).shown.length ≤ mx) then some (D.str (py (.bl false)).shown) else none) = _)⟩
  · exact ⟨_, (if_pos (by decide +kernel) : (if (py (.bl true)).showable && SeqAt.shaped (py (.bl true)) && decide ((py (.bl true)).shown.length ≤ mx) then some (D.str (py (.bl true)).shown) else none) = _)⟩
end DL
namespace Law
open PySem L2 DL
theorem itm_all : ∀ x ∈ sizes, ((stS x.1 x.2).all fun s => s.all fun i => decide (0 ≤ i ∧ i < 256)) = true := by decide +kernel
theorem flat_rowD (x : List Int × Option Int) : Flat 2 (rowD x) := flat_tup fun d hd => by
  rcases List.mem_cons.mp hd with rfl | hd
  · exact flat_tupI _
  · rcases List.mem_cons.mp hd with rfl | hd
    · obtain ⟨_, v⟩ := x
      cases v with
      | none => exact flat_non.mono (by decide)
      | some k => exact (flat_int k).mono (by decide)
    · cases hd
theorem flat_rows (V : FT') : Flat 3 (.tup (V.map rowD)) := flat_tup fun d hd => by
  obtain ⟨x, _, rfl⟩ := List.mem_map.mp hd
  exact flat_rowD x
theorem flat_tupIs (L : List (List Int)) : Flat 2 (.tup (L.map tupI)) := flat_tup fun d hd => by
  obtain ⟨x, _, rfl⟩ := List.mem_map.mp hd
  exact flat_tupI x
theorem neat_rows {b m : Int} {V : FT'} (h : (b, m) ∈ sizes) (hs : ∀ x ∈ V, x.1 ∈ stS b m) (hl : V.length ≤ 60) (hv : ∀ x ∈ V, ∀ k, x.2 = some k → 0 ≤ k ∧ k < 256) : Neat 90000 (.tup (V.map rowD)) := by
  have z := sz_of h
  have it := itm_all _ h
  rw [List.all_eq_true] at it
  refine neat_tup (w := 300) (n := 60) (fun d hd => ?_) (by rw [List.length_map]; exact hl) (by decide)
  obtain ⟨x, hx, rfl⟩ := List.mem_map.mp hd
  refine neat_tup (w := 140) (n := 2) (fun d hd => ?_) (Nat.le_refl _) (by decide)
  rcases List.mem_cons.mp hd with rfl | hd
  · refine neat_tup (w := 8) (n := 15) (fun d hd => ?_) (by rw [List.length_map]; exact z.sl _ (hs x hx)) (by decide)
    obtain ⟨i, hi, rfl⟩ := List.mem_map.mp hd
    have := it x.1 (hs x hx)
    rw [List.all_eq_true] at this
    have := of_decide_eq_true (this i hi)
    exact neat_int this.1 this.2
  · rcases List.mem_cons.mp hd with rfl | hd
    · obtain ⟨s, v⟩ := x
      cases v with
      | none => exact ⟨rfl, rfl, Nat.zero_le _⟩
      | some k =>
        have := hv _ hx k rfl
        have n := neat_int this.1 this.2
        exact ⟨n.sh, n.lv, Nat.le_trans n.wt (by decide)⟩
    · cases hd
theorem repr_rows {b m : Int} {V : FT'} (h : (b, m) ∈ sizes) (hs : ∀ x ∈ V, x.1 ∈ stS b m) (hl : V.length ≤ 60) (hv : ∀ x ∈ V, ∀ k, x.2 = some k → 0 ≤ k ∧ k < 256) : ∃ t, gRepr [.tup (V.map rowD)] = some (.str t) ∧ gRepr [.ptp (V.map rowD)] = some (.str t) := ⟨_, repr_of (neat_rows h hs hl hv) (by decide) (flat_rows V) (by decide)⟩
/-! ### the levels are small -/
theorem whileG_bd {later : FT' → List (List Int)} : ∀ (n : Nat) {k : Int} {F F' : FT'}, 0 ≤ k → (∀ s v, lk F s = some (some v) → 0 ≤ v ∧ v ≤ k) → whileG later n k F = some F' → ∀ s v, lk F' s = some (some v) → 0 ≤ v ∧ v ≤ k + n
  | 0, _, _, _, _, _, h => by cases h
  | n + 1, k, F, F', hk, hP, h => by
    unfold whileG at h
    by_cases hL : later F = []
    · rw [if_pos hL] at h
      cases h
      exact fun s v e => by have := hP s v e; omega
    · rw [if_neg hL] at h
      have := whileG_bd n (by omega) (fun s v e => by
        rw [lk_lapF] at e
        by_cases hs : s ∈ later F
        · rw [if_pos hs] at e
          cases q : lk F s with
          | none => rw [q] at e; cases e
          | some w => rw [q] at e; cases e; omega
        · rw [if_neg hs] at e
          have := hP s v e
          omega) h
      exact fun s v e => by have := this s v e; omega
theorem lvls_bd {b m p : Int} {F : FT'} (hF : lvls b m p = some F) : ∀ s v, lk F s = some (some v) → 0 ≤ v ∧ v < 256 := fun s v e => by
  unfold lvls at hF
  rw [whileC_G] at hF
  have := whileG_bd 199 (Int.le_refl 0) (fun s v e => by
    have := lk_F0 (R := RS b m p) (s := s)
    rw [e] at this
    cases this) hF s v e
  omega
theorem stdF_bd {b m p : Int} {C G : FT'} (hG : stdF b m p C = some G) : ∀ s v, lk G s = some (some v) → 0 ≤ v ∧ v < 256 := fun s v e => by
  unfold stdF at hG
  have := whileG_bd 199 (Int.le_refl 0) (fun s v e => by
    have z := lk_F0 (R := knS b m p C) (s := s)
    unfold stF1 at e
    split at e
    · rw [lk_putF] at e
      split at e
      · cases q : lk (F0 (knS b m p C)) s with
        | none => rw [q] at e; cases e
        | some w => rw [q] at e; cases e; omega
      · rw [e] at z; cases z
    · rw [e] at z; cases z) hG s v e
  omega
end Law
namespace DL
open PySem L2
theorem cut_lo {α : Type} {xs : List α} {k : Int} (h0 : 0 ≤ k) (h : k < xs.length) : cutD xs none (some k) = xs.take k.toNat := by
  unfold cutD HT.sIx
  simp only
  rw [if_neg (by omega), List.drop_zero, Nat.sub_zero, Nat.min_eq_left (by omega)]
theorem cut_hi {α : Type} {xs : List α} {k : Int} (h0 : 0 ≤ k) (h : k < xs.length) : cutD xs (some (k + 1)) none = xs.drop (k.toNat + 1) := by
  unfold cutD HT.sIx
  simp only
  rw [if_neg (by omega), show min (k + 1).toNat xs.length = k.toNat + 1 by omega]
  exact List.take_of_length_le (by rw [List.length_drop]; omega)
theorem get1_ok {A : List (List Int × Int)} {s : List Int} {i j : Nat} {env : En} (h1 : fLv i env = some (.inl i, env)) (h2 : fLv j env = some (.inl j, env)) (h3 : res env (.inl i) = some (dF D.int A)) (h4 : res env (.inl j) = some (tupI s)) : fGet1 (fLv i) (fLv j) env = some (Law.lvD (lk A s), env) := by
  unfold fGet1
  simp only [h1, h3, h2, h4]
  rw [if_pos (show isDct (dF D.int A) = true from rfl), dAt_F]
  cases lk A s <;> rfl
end DL
namespace Law
open PySem L2 DL
def vE (b m p a c n : Int) (s4 s5 s6 s7 s8 s9 s10 s11 s12 s13 : Sl) : En := [.own true (potD a c n), .val (.int b), .val (.int m), .val (.int p), s4, s5, s6, s7, s8, s9, s10, s11, s12, s13, .un]
def wE (b m p a c n : Int) (A : AT) (s7 s8 s9 s10 s11 s12 s13 : Sl) : En := vE b m p a c n (.val (dF gmD (GS b m p))) (.val (dF D.int A)) (.val (.lst ((stS b m).map tupI))) s7 s8 s9 s10 s11 s12 s13
theorem safeS_rel {b m : Int} {A : AT} {F : FT'} (r : Rel A F) : (stS b m).filter (fun s => !(lk A s).isSome) = safeS b m F := by
  unfold safeS
  refine List.filter_congr fun s _ => ?_
  rw [rel_lvO r s]
  cases lvO F s <;> rfl
theorem notLost {A : AT} {s : List Int} {env : En} (h1 : fLv 11 env = some (.inl 11, env)) (h2 : fLv 5 env = some (.inl 5, env)) (h3 : res env (.inl 11) = some (tupI s)) (h4 : res env (.inl 5) = some (dF D.int A)) : fTest (fOp2 gNotIn (fLv 11) (fLv 5)) env = some (!(lk A s).isSome, env) :=
  test_op2 h1 h2 h3 h4 (by
    unfold gNotIn
    rw [inB_F]
    rfl)
/-! ### the bent tellings -/
def bentV (V : FT') (i : Nat) (s : List Int) (o : Option Int) : FT' := V.take i ++ [(s, o)] ++ V.drop (i + 1)
theorem bent_keys {V : FT'} {i : Nat} {x : List Int × Option Int} {o : Option Int} (h : V[i]? = some x) : (bentV V i x.1 o).map (·.1) = V.map (·.1) := by
  obtain ⟨hi, hx⟩ := List.getElem?_eq_some_iff.mp h
  have e : V = V.take i ++ [x] ++ V.drop (i + 1) := by
    rw [List.append_assoc, List.singleton_append, ← hx, ← List.drop_eq_getElem_cons hi, List.take_append_drop]
  unfold bentV
  conv => rhs; rw [e]
  rw [List.map_append, List.map_append, List.map_append, List.map_append]
  rfl
abbrev bentF : FE := fOp2 gAddP (fLd (fOp2 gAddP (fLd (fSlP (fLv 7) foNone (foSome (fVar 8)))) (fLd (fTupP (faCons (fTup (faCons (fOp2 gIx (fLd (fOp2 gIx (fLv 7) (fLv 8))) (fLd (fC (.int 0)))) (faCons (fVar 9) faNil))) faNil))))) (fLd (fSlP (fLv 7) (foSome (fOp2 DL.gAdd (fLv 8) (fLd (fC (.int 1))))) foNone))
theorem bentF_ok {b m p a c n : Int} {A : AT} {V : FT'} {k : Int} {x : List Int × Option Int} {o : Option Int} {s10 s11 s12 s13 : Sl} (hl : V.length ≤ 60) (h0 : 0 ≤ k) (h1 : k < V.length) (hx : V[k.toNat]? = some x) :
    bentF (wE b m p a c n A (.val (.ptp (V.map rowD))) (.val (.int k)) (.val (lvD o)) s10 s11 s12 s13) = some (.ptp ((bentV V k.toNat x.1 o).map rowD), wE b m p a c n A (.val (.ptp (V.map rowD))) (.val (.int k)) (.val (lvD o)) s10 s11 s12 s13) := by
  generalize hE : wE b m p a c n A (.val (.ptp (V.map rowD))) (.val (.int k)) (.val (lvD o)) s10 s11 s12 s13 = env
  have l7 : fLv 7 env = some (.inl 7, env) := by rw [← hE]; rfl
  have r7 : res env (.inl 7) = some (.ptp (V.map rowD)) := by rw [← hE]; rfl
  have v8 : fVar 8 env = some (.int k, env) := by rw [← hE]; rfl
  have l8 : fLv 8 env = some (.inl 8, env) := by rw [← hE]; rfl
  have r8 : res env (.inl 8) = some (.int k) := by rw [← hE]; rfl
  have v9 : fVar 9 env = some (lvD o, env) := by rw [← hE]; rfl
  have lm : (V.map rowD).length = V.length := List.length_map _
  have s1 : fSlP (fLv 7) foNone (foSome (fVar 8)) env = some (.ptp ((V.take k.toNat).map rowD), env) := by
    unfold fSlP foNone foSome
    simp only [l7, v8, r7]
    rw [cut_lo h0 (by rw [lm]; exact h1), List.map_take]
  have p8 : fOp2 DL.gAdd (fLv 8) (fLd (fC (.int 1))) env = some (.int (k + 1), env) := op2_of l8 rfl r8 rfl rfl
  have s2 : fSlP (fLv 7) (foSome (fOp2 DL.gAdd (fLv 8) (fLd (fC (.int 1))))) foNone env = some (.ptp ((V.drop (k.toNat + 1)).map rowD), env) := by
    unfold fSlP foNone foSome
    simp only [l7, p8, r7]
    rw [cut_hi h0 (by rw [lm]; exact h1), List.map_drop]
  have i1 : fOp2 gIx (fLv 7) (fLv 8) env = some (rowD x, env) := op2_of l7 l8 r7 r8 (at_of h0 (by rw [List.getElem?_map, hx]; rfl))
  have i2 : fOp2 gIx (fLd (fOp2 gIx (fLv 7) (fLv 8))) (fLd (fC (.int 0))) env = some (tupI x.1, env) := op2_of (fLd_of i1) rfl rfl rfl rfl
  have t1 : fTup (faCons (fOp2 gIx (fLd (fOp2 gIx (fLv 7) (fLv 8))) (fLd (fC (.int 0)))) (faCons (fVar 9) faNil)) env = some (rowD (x.1, o), env) := by
    have : faCons (fOp2 gIx (fLd (fOp2 gIx (fLv 7) (fLv 8))) (fLd (fC (.int 0)))) (faCons (fVar 9) faNil) env = some ([tupI x.1, lvD o], env) := by
      simp only [faCons, i2, v9]
      rfl
    unfold fTup
    rw [this]
    rfl
  have t2 : fTupP (faCons (fTup (faCons (fOp2 gIx (fLd (fOp2 gIx (fLv 7) (fLv 8))) (fLd (fC (.int 0)))) (faCons (fVar 9) faNil))) faNil) env = some (.ptp ([(x.1, o)].map rowD), env) := by
    have : faCons (fTup (faCons (fOp2 gIx (fLd (fOp2 gIx (fLv 7) (fLv 8))) (fLd (fC (.int 0)))) (faCons (fVar 9) faNil))) faNil env = some ([rowD (x.1, o)], env) := by
      rw [faCons]
      rw [t1]
      rfl
    unfold fTupP
    rw [this]
    rfl
  have mxl : (1000 : Nat) ≤ mx := by decide
  have g1 := op2_of (g := gAddP) (d := .ptp ((V.take k.toNat ++ [(x.1, o)]).map rowD)) (fLd_of s1) (fLd_of t2) rfl rfl (by
    show (if _ then _ else none) = _
    rw [if_pos (by rw [List.length_map, List.length_map, List.length_take]; show _ + 1 ≤ _; omega), ← List.map_append])
  exact op2_of (g := gAddP) (fLd_of g1) (fLd_of s2) rfl rfl (by
    show (if _ then _ else none) = _
    rw [if_pos (by rw [List.length_map, List.length_map, List.length_append, List.length_take, List.length_drop]; show _ + 1 + _ ≤ _; omega), ← List.map_append]
    rfl)
abbrev bodyV7 : FS := fSeq (fSet 10 bentF)
    (fIf (fTest (fOp2 gNe (fLd (fB gRepr (flCons (fLd (fCall [false, false, false, false] S_shows_clashes (flCons (fLv 1) (flCons (fLv 2) (flCons (fLv 3) (flCons (fLv 10) flNil)))))) flNil))) (fLd (fB gRepr (flCons (fLd (fCall [false, false] N__law_is_told_right (flCons (fLv 4) (flCons (fLv 10) flNil)))) flNil)))))
    (fRet (fC .non))
    fSkip)
abbrev loopV7 : FS := fFor (fiSeq (fTup (faCons (fC .non) (faCons (fC (.int 1)) (faCons (fC (.int 2)) (faCons (fC (.int 9)) (faCons (fC (.int 0)) faNil))))))) (setE 9) bodyV7
theorem loopV7_ok {b m p a c n : Int} {A : AT} {V : FT'} {k : Int} {s11 s12 s13 : Sl} (h : (b, m) ∈ sizes) (hp : 0 ≤ p ∧ p ≤ 5) (hV : V.map (·.1) = stS b m) (h0 : 0 ≤ k) (h1 : k < V.length) :
    ∃ t9 t10, t9.mine = true ∧ t10.mine = true ∧ loopV7 (wE b m p a c n A (.val (.ptp (V.map rowD))) (.val (.int k)) .un .un s11 s12 s13) = some (.nx (wE b m p a c n A (.val (.ptp (V.map rowD))) (.val (.int k)) t9 t10 s11 s12 s13)) := by
  have z := sz_of h
  have hl : V.length ≤ 60 := by rw [← List.length_map (f := (·.1)) (as := V), hV]; exact z.len
  obtain ⟨x, hx, _⟩ := get_of h0 h1
  obtain ⟨env', hl7, t9, t10, n9, n10, rfl⟩ := loopD_inv (α := Option Int) (ι := lvD) (g := setE 9) (f := bodyV7)
    (fun i env => ∃ t9 t10 : Sl, t9.mine = true ∧ t10.mine = true ∧ env = wE b m p a c n A (.val (.ptp (V.map rowD))) (.val (.int k)) t9 t10 s11 s12 s13) (xs := [none, some 1, some 2, some 9, some 0]) (k := 0) (env := wE b m p a c n A (.val (.ptp (V.map rowD))) (.val (.int k)) .un .un s11 s12 s13) (fun i o ho env he => by
      obtain ⟨t9, t10, n9, n10, rfl⟩ := he
      have a1 := set_of (i := 10) (bentF_ok (b := b) (m := m) (p := p) (a := a) (c := c) (n := n) (A := A) (o := o) (s10 := t10) (s11 := s11) (s12 := s12) (s13 := s13) hl h0 h1 hx) (setE_mine rfl n10)
      have hB : (bentV V k.toNat x.1 o).map (·.1) = stS b m := by rw [bent_keys hx, hV]
      refine ⟨wE b m p a c n A (.val (.ptp (V.map rowD))) (.val (.int k)) (.val (lvD o)) t10 s11 s12 s13, setE_mine rfl n9, wE b m p a c n A (.val (.ptp (V.map rowD))) (.val (.int k)) (.val (lvD o)) (.val (.ptp ((bentV V k.toNat x.1 o).map rowD))) s11 s12 s13, .inl (seq_nx a1 ?_), .val (lvD o), .val (.ptp ((bentV V k.toNat x.1 o).map rowD)), rfl, rfl, rfl⟩
      generalize bentV V k.toNat x.1 o = B at hB
      show (fIf _ _ _) (wE b m p a c n A (.val (.ptp (V.map rowD))) (.val (.int k)) (.val (lvD o)) (.val (.ptp (B.map rowD))) s11 s12 s13) = _
      obtain ⟨t, ht⟩ := repr_bl (showsC B m p)
      have c1 : fCall [false, false, false, false] S_shows_clashes (flCons (fLv 1) (flCons (fLv 2) (flCons (fLv 3) (flCons (fLv 10) flNil)))) (wE b m p a c n A (.val (.ptp (V.map rowD))) (.val (.int k)) (.val (lvD o)) (.val (.ptp (B.map rowD))) s11 s12 s13) = some (.bl (showsC B m p), wE b m p a c n A (.val (.ptp (V.map rowD))) (.val (.int k)) (.val (lvD o)) (.val (.ptp (B.map rowD))) s11 s12 s13) := fCall_gives (by decide) rfl rfl (g_shows_clashes h hp hB)
      have c2 : fCall [false, false] N__law_is_told_right (flCons (fLv 4) (flCons (fLv 10) flNil)) (wE b m p a c n A (.val (.ptp (V.map rowD))) (.val (.int k)) (.val (lvD o)) (.val (.ptp (B.map rowD))) s11 s12 s13) = some (.bl (showsC B m p), wE b m p a c n A (.val (.ptp (V.map rowD))) (.val (.int k)) (.val (lvD o)) (.val (.ptp (B.map rowD))) s11 s12 s13) := fCall_gives (by decide) rfl rfl (sp_law_is_told_right h hp hB)
      exact if_ff (test_op2 (fLd_of (fB1_of (fLd_of c1) rfl ht)) (fLd_of (fB1_of (fLd_of c2) rfl ht)) rfl rfl (ne_str t)) rfl) ⟨.un, .un, rfl, rfl, rfl⟩
  exact ⟨t9, t10, n9, n10, forD_of rfl hl7⟩
/-! ### the safe throws of some states -/
abbrev bodyV8 : FS := fSeq (fIf (fTest (fOp2 gNe (fLd (fCall [false, false, false] S_safe_throws (flCons (fLv 11) (flCons (fLv 2) (flCons (fLv 3) flNil))))) (fLd (fB gTuple (flCons (fLd (fCall [false, false, false] N__law_safe_throws (flCons (fLv 4) (flCons (fLv 5) (flCons (fLv 11) flNil))))) flNil)))))
    (fRet (fC .non))
    fSkip)
    (fIf (ftAnd (fTest (fOp2 gIn (fLv 11) (fLv 5))) (fTest (fOp2 gNe (fLd (fCall [false, false, false] S_safe_throws (flCons (fLv 11) (flCons (fLv 2) (flCons (fLv 3) flNil))))) (fLd (fTup faNil)))))
    (fRet (fC .non))
    fSkip)
theorem flat_ints (L : List Int) : Flat 1 (.tup (L.map D.int)) := flat_tup flatD_ints
theorem bodyV8_ok {b m p a c n : Int} {A : AT} {F : FT'} {s : List Int} {s7 s8 s9 s10 s12 s13 : Sl} (h : (b, m) ∈ sizes) (hp : 0 ≤ p ∧ p ≤ 5) (hF : lvls b m p = some F) (r : Rel A F) (hs : s ∈ stS b m) :
    bodyV8 (wE b m p a c n A s7 s8 s9 s10 (.val (tupI s)) s12 s13) = some (.nx (wE b m p a c n A s7 s8 s9 s10 (.val (tupI s)) s12 s13)) := by
  obtain ⟨gg, gl⟩ := GS_get h hp hs
  have c1 : fCall [false, false, false] S_safe_throws (flCons (fLv 11) (flCons (fLv 2) (flCons (fLv 3) flNil))) (wE b m p a c n A s7 s8 s9 s10 (.val (tupI s)) s12 s13) = some (.tup ((safeT F s m p).map D.int), wE b m p a c n A s7 s8 s9 s10 (.val (tupI s)) s12 s13) := fCall_gives (by decide) rfl rfl (g_safe_throws h hs hp hF)
  have c2 : fCall [false, false, false] N__law_safe_throws (flCons (fLv 4) (flCons (fLv 5) (flCons (fLv 11) flNil))) (wE b m p a c n A s7 s8 s9 s10 (.val (tupI s)) s12 s13) = some (.lst ((safeT F s m p).map D.int), wE b m p a c n A s7 s8 s9 s10 (.val (tupI s)) s12 s13) := by
    rw [← safeT_is h hs r]
    exact fCall_gives (by decide) rfl rfl (sp_law_safe_throws gg gl)
  have t1 := test_op2 (g := gNe) (fLd_of c1) (fLd_of (fB1_of (g := gTuple) (fLd_of c2) rfl rfl)) rfl rfl (ne_tup (flat_ints _) (by decide))
  refine seq_nx (if_ff t1 rfl) ?_
  have t2 : fTest (fOp2 gIn (fLv 11) (fLv 5)) (wE b m p a c n A s7 s8 s9 s10 (.val (tupI s)) s12 s13) = some ((lk A s).isSome, wE b m p a c n A s7 s8 s9 s10 (.val (tupI s)) s12 s13) := test_op2 rfl rfl rfl rfl (by
    show gIn (tupI s) (dF D.int A) = _
    unfold gIn
    rw [inB_F]
    rfl)
  cases q : lk A s with
  | none =>
    rw [q] at t2
    exact if_ff (and_ff t2) rfl
  | some k =>
    rw [q] at t2
    rw [rel_lvO r s] at q
    rw [lost_none h hF hs q] at c1
    have t3 := test_op2 (g := gNe) (fb := fLd (fTup faNil)) (b := .tup []) (fLd_of c1) rfl rfl rfl (ne_tup (flat_ints []) (by decide))
    exact if_ff (and_tt t2 t3) rfl
end Law
namespace Law
open PySem L2 DL
theorem stS_pos {b m : Int} (h : (b, m) ∈ sizes) : 1 ≤ (stS b m).length := by
  have := chkG_all _ h
  unfold chkG at this
  rw [Bool.and_eq_true, decide_eq_true_eq] at this
  exact List.length_pos_of_mem this.1
theorem keepS_mine {t : Sl} : (keepS (some t)).mine = true := by cases t <;> rfl
/-- the states that aren't lost -/
theorem comp_safe {b m p a c n : Int} {A : AT} {F : FT'} {s7 s8 s9 s10 s11 s12 s13 : Sl} (h : (b, m) ∈ sizes) (r : Rel A F) (m11 : s11.mine = true) {f : FE} {φ : List Int → D} (hf : ∀ s ∈ stS b m, f (wE b m p a c n A s7 s8 s9 s10 (.val (tupI s)) s12 s13) = some (φ s, wE b m p a c n A s7 s8 s9 s10 (.val (tupI s)) s12 s13)) :
    fComp (fiSeq (fVar 6)) (setE 11) (fTest (fOp2 gNotIn (fLv 11) (fLv 5))) f [11] (wE b m p a c n A s7 s8 s9 s10 s11 s12 s13) = some (.lst ((safeS b m F).map φ), wE b m p a c n A s7 s8 s9 s10 (keepS (some s11)) s12 s13) := by
  have z := sz_of h
  rw [← safeS_rel r]
  exact fComp_on (ι := tupI) (xs := stS b m) (fun s => !(lk A s).isSome) φ (fun s => wE b m p a c n A s7 s8 s9 s10 (.val (tupI s)) s12 s13) rfl (Nat.le_trans z.len (by decide)) (by
    show (s11.mine && true) = true
    rw [m11]; rfl) rfl rfl fun s hs => ⟨rfl, notLost rfl rfl rfl rfl, rfl, rfl, fun _ => hf s hs⟩
def SLIP : Fn := runD [true, false, false, false] 11 (f__law_is_slip_right N__law_clashes N__law_game N__law_is_told_right N__law_safe_throws N__law_some N__law_steadied N__law_take S_clashes S_safe S_safe_throws S_shows_clashes S_steadied)
theorem slip_ok {N b m p a c n : Int} {F : FT'} (h : (b, m) ∈ sizes) (hp : 0 ≤ p ∧ p ≤ 5) (hF : lvls b m p = some F) (pot : PotOk N a c n) (hN : 0 ≤ N ∧ N ≤ 900) :
    ∃ a' n' outs, SLIP [potD a c n, .int b, .int m, .int p] = some (false, .lst ((safeS b m F).map tupI), potD a' c n' :: outs) ∧ PotOk (N + 10) a' c n' := by
  have z := sz_of h
  have hk := lvls_keys hF
  obtain ⟨A, hA, r⟩ := loss_rel h hF
  obtain ⟨G, hG⟩ := stdF_some (m := m) p (C := F) z
  obtain ⟨A2, hA2, r2⟩ := std_rel h hp.1 hk r hG
  have ok := GS_ok h hp
  have hdl : (dueL b m F).length = (stS b m).length := by unfold dueL; rw [List.length_map]
  have a4 : fSet 4 (fCall [false, false, false] N__law_game (flCons (fLv 1) (flCons (fLv 2) (flCons (fLv 3) flNil)))) (vE b m p a c n .un .un .un .un .un .un .un .un .un .un) = some (.nx (vE b m p a c n (.val (dF gmD (GS b m p))) .un .un .un .un .un .un .un .un .un)) := set_of (fCall_gives (by decide) rfl rfl (sp_law_game h hp)) rfl
  have a56 : fPar [5, 6] (fmVal (fCall [false] N__law_clashes (flCons (fLv 4) flNil)) (fmVal (fB gSortD (flCons (fLv 4) flNil)) fmNil)) (vE b m p a c n (.val (dF gmD (GS b m p))) .un .un .un .un .un .un .un .un .un) = some (.nx (wE b m p a c n A .un .un .un .un .un .un .un)) := by
    have c1 : fCall [false] N__law_clashes (flCons (fLv 4) flNil) (vE b m p a c n (.val (dF gmD (GS b m p))) .un .un .un .un .un .un .un .un .un) = some (dF D.int A, vE b m p a c n (.val (dF gmD (GS b m p))) .un .un .un .un .un .un .un .un .un) := fCall_gives (by decide) rfl rfl (sp_law_clashes ok hA)
    have c2 : fB gSortD (flCons (fLv 4) flNil) (vE b m p a c n (.val (dF gmD (GS b m p))) .un .un .un .un .un .un .un .un .un) = some (.lst ((stS b m).map tupI), vE b m p a c n (.val (dF gmD (GS b m p))) .un .un .un .un .un .un .un .un .un) := fB1_of rfl rfl (sortD_F gmD h (GS_keys b m p))
    unfold fPar
    have : fmVal (fCall [false] N__law_clashes (flCons (fLv 4) flNil)) (fmVal (fB gSortD (flCons (fLv 4) flNil)) fmNil) (vE b m p a c n (.val (dF gmD (GS b m p))) .un .un .un .un .un .un .un .un .un) = some ([(false, dF D.int A), (false, .lst ((stS b m).map tupI))], vE b m p a c n (.val (dF gmD (GS b m p))) .un .un .un .un .un .un .un .un .un) := by
      simp only [fmVal, c1, c2]
      rfl
    rw [this]
    rfl
  have b3 : (fIf (fTest (fOp2 gNe (fLd (fCall [false, false, false] S_safe (flCons (fLv 1) (flCons (fLv 2) (flCons (fLv 3) flNil))))) (fLd (fB gTuple (flCons (fLd (fComp (fiSeq (fVar 6)) (setE 11) (fTest (fOp2 gNotIn (fLv 11) (fLv 5))) (fVar 11) [11])) flNil)))))
    (fRet (fC .non))
    fSkip) (wE b m p a c n A .un .un .un .un .un .un .un) = some (.nx (wE b m p a c n A .un .un .un .un .un .un .un)) := by
    have c1 : fCall [false, false, false] S_safe (flCons (fLv 1) (flCons (fLv 2) (flCons (fLv 3) flNil))) (wE b m p a c n A .un .un .un .un .un .un .un) = some (.tup ((safeS b m F).map tupI), wE b m p a c n A .un .un .un .un .un .un .un) := fCall_gives (by decide) rfl rfl (g_safe h hp hF)
    have c2 := comp_safe (b := b) (m := m) (p := p) (a := a) (c := c) (n := n) (s7 := .un) (s8 := .un) (s9 := .un) (s10 := .un) (s11 := .un) (s12 := .un) (s13 := .un) h r rfl (f := fVar 11) (φ := tupI) fun s _ => rfl
    exact if_ff (test_op2 (fLd_of c1) (fLd_of (fB1_of (fLd_of c2) rfl rfl)) rfl rfl (ne_tup (flat_tupIs _) (by decide))) rfl
  have a7 : fSet 7 (fB gTupleP (flCons (fLd (fComp (fiSeq (fVar 6)) (setE 11) fYes (fTup (faCons (fVar 11) (faCons (fGet1 (fLv 5) (fLv 11)) faNil))) [11])) flNil)) (wE b m p a c n A .un .un .un .un .un .un .un) = some (.nx (wE b m p a c n A (.val (.ptp ((dueL b m F).map rowD))) .un .un .un .un .un .un)) := by
    have c1 : fComp (fiSeq (fVar 6)) (setE 11) fYes (fTup (faCons (fVar 11) (faCons (fGet1 (fLv 5) (fLv 11)) faNil))) [11] (wE b m p a c n A .un .un .un .un .un .un .un) = some (.lst ((dueL b m F).map rowD), wE b m p a c n A .un .un .un .un .un .un .un) := by
      unfold dueL
      rw [List.map_map]
      exact fComp_all (ι := tupI) (xs := stS b m) (fun s => rowD (s, lvO F s)) (fun s => wE b m p a c n A .un .un .un .un (.val (tupI s)) .un .un) rfl (Nat.le_trans z.len (by decide)) rfl rfl rfl fun s hs => ⟨rfl, rfl, rfl, by
        have g := get1_ok (A := A) (s := s) (i := 5) (j := 11) (env := wE b m p a c n A .un .un .un .un (.val (tupI s)) .un .un) rfl rfl rfl rfl
        rw [rel_lvO r s] at g
        have v : fVar 11 (wE b m p a c n A .un .un .un .un (.val (tupI s)) .un .un) = some (tupI s, wE b m p a c n A .un .un .un .un (.val (tupI s)) .un .un) := rfl
        have : faCons (fVar 11) (faCons (fGet1 (fLv 5) (fLv 11)) faNil) (wE b m p a c n A .un .un .un .un (.val (tupI s)) .un .un) = some ([tupI s, lvD (lvO F s)], wE b m p a c n A .un .un .un .un (.val (tupI s)) .un .un) := by
          simp only [faCons, v, g]
          rfl
        unfold fTup
        rw [this]
        rfl⟩
    exact set_of (fB1_of (fLd_of c1) rfl rfl) rfl
  have bnd : ∀ (V : FT') (f : List Int → Option Int) (L : List (List Int)), V = L.map (fun s => (s, f s)) → (∀ s v, f s = some v → 0 ≤ v ∧ v < 256) → ∀ x ∈ V, ∀ k, x.2 = some k → 0 ≤ k ∧ k < 256 := fun V f L e hb x hx k ek => by
    rw [e] at hx
    obtain ⟨s, _, rfl⟩ := List.mem_map.mp hx
    exact hb s k ek
  have lvOb : ∀ (F : FT'), (∀ s v, lk F s = some (some v) → 0 ≤ v ∧ v < 256) → ∀ s v, lvO F s = some v → 0 ≤ v ∧ v < 256 := fun F hb s v e => by
    unfold lvO at e
    cases q : lk F s with
    | none => rw [q] at e; cases e
    | some w =>
      rw [q] at e
      have e' : w = some v := e
      rw [e'] at q
      exact hb s v q
  obtain ⟨t, rt1, rt2⟩ := repr_rows (V := dueL b m F) h (fun x hx => by
    have : x.1 ∈ (dueL b m F).map (·.1) := List.mem_map.mpr ⟨x, hx, rfl⟩
    rw [dueL_keys] at this
    exact this) (by rw [hdl]; exact z.len) (bnd _ _ _ rfl (lvOb F (lvls_bd hF)))
  have b8 : (fIf (ftOr (fTest (fOp2 gNe (fLd (fB gRepr (flCons (fLd (fCall [false, false, false] S_clashes (flCons (fLv 1) (flCons (fLv 2) (flCons (fLv 3) flNil))))) flNil))) (fLd (fB gRepr (flCons (fLv 7) flNil))))) (fTest (fOp2 gIsNot (fLd (fCall [false, false, false, false] S_shows_clashes (flCons (fLv 1) (flCons (fLv 2) (flCons (fLv 3) (flCons (fLv 7) flNil)))))) (fLd (fC (.bl true))))))
    (fRet (fC .non))
    fSkip) (wE b m p a c n A (.val (.ptp ((dueL b m F).map rowD))) .un .un .un .un .un .un) = some (.nx (wE b m p a c n A (.val (.ptp ((dueL b m F).map rowD))) .un .un .un .un .un .un)) := by
    have c1 : fCall [false, false, false] S_clashes (flCons (fLv 1) (flCons (fLv 2) (flCons (fLv 3) flNil))) (wE b m p a c n A (.val (.ptp ((dueL b m F).map rowD))) .un .un .un .un .un .un) = some (.tup ((dueL b m F).map rowD), wE b m p a c n A (.val (.ptp ((dueL b m F).map rowD))) .un .un .un .un .un .un) := fCall_gives (by decide) rfl rfl (g_clashes h hp hF)
    have c2 : fCall [false, false, false, false] S_shows_clashes (flCons (fLv 1) (flCons (fLv 2) (flCons (fLv 3) (flCons (fLv 7) flNil)))) (wE b m p a c n A (.val (.ptp ((dueL b m F).map rowD))) .un .un .un .un .un .un) = some (.bl true, wE b m p a c n A (.val (.ptp ((dueL b m F).map rowD))) .un .un .un .un .un .un) := by
      have := g_shows_clashes h hp (V := dueL b m F) dueL_keys
      rw [shows_due h hF] at this
      exact fCall_gives (by decide) rfl rfl this
    exact if_ff (or_ff (test_op2 (fLd_of (fB1_of (fLd_of c1) rfl rt1)) (fLd_of (fB1_of rfl rfl rt2)) rfl rfl (ne_str t)) (test_op2 (fLd_of c2) rfl rfl rfl rfl)) rfl
  obtain ⟨k, a1, n1, outs1, ht, pot1, k0, k1⟩ := take_ok (u := ((stS b m).length : Nat)) pot (by omega) (by have := stS_pos h; have := z.len; omega)
  have a8 : fSet 8 (fCall [true, false] N__law_take (flCons (fLv 0) (flCons (fLd (fB gLen (flCons (fLv 7) flNil))) flNil))) (wE b m p a c n A (.val (.ptp ((dueL b m F).map rowD))) .un .un .un .un .un .un) = some (.nx (wE b m p a1 c n1 A (.val (.ptp ((dueL b m F).map rowD))) (.val (.int k)) .un .un .un .un .un)) := by
    have ln : fB gLen (flCons (fLv 7) flNil) (wE b m p a c n A (.val (.ptp ((dueL b m F).map rowD))) .un .un .un .un .un .un) = some (.int (stS b m).length, wE b m p a c n A (.val (.ptp ((dueL b m F).map rowD))) .un .un .un .un .un .un) := fB1_of rfl rfl (by
      show some (D.int (((dueL b m F).map rowD).length : Nat)) = _
      rw [List.length_map, hdl])
    exact set_of (call_io (ms := [false]) (i := 0) (by decide) (flCons_of rfl (flCons_of (fLd_of ln) rfl)) rfl ht) rfl
  obtain ⟨t9, t10, n9, n10, a9⟩ := loopV7_ok (b := b) (m := m) (p := p) (a := a1) (c := c) (n := n1) (A := A) (V := dueL b m F) (k := k) (s11 := .un) (s12 := .un) (s13 := .un) h hp dueL_keys k0 (by rw [hdl]; exact k1)
  have m6 : ∃ w : Int, w = mnI 6 (stS b m).length ∧ 0 ≤ w ∧ w ≤ 6 ∧ w ≤ (stS b m).length := by
    refine ⟨_, rfl, ?_⟩
    unfold mnI
    split <;> omega
  obtain ⟨w, hw, w0, w6, wl⟩ := m6
  obtain ⟨M, a2, n2, outs2, hs, pot2, hM, hMl⟩ := some_ok (L := stS b m) (k := w) pot1 (by omega) (by have := z.len; omega) ⟨w0, wl⟩
  have hl8 : ∃ t11, t11.mine = true ∧ fFor (fiSeq (fCall [true, false, false] N__law_some (flCons (fLv 0) (flCons (fLv 6) (flCons (fLd (fB gMin (flCons (fLd (fC (.int 6))) (flCons (fLd (fB gLen (flCons (fLv 6) flNil))) flNil)))) flNil))))) (setE 11) bodyV8 (wE b m p a1 c n1 A (.val (.ptp ((dueL b m F).map rowD))) (.val (.int k)) t9 t10 .un .un .un) = some (.nx (wE b m p a2 c n2 A (.val (.ptp ((dueL b m F).map rowD))) (.val (.int k)) t9 t10 t11 .un .un)) := by
    have ln : fB gLen (flCons (fLv 6) flNil) (wE b m p a1 c n1 A (.val (.ptp ((dueL b m F).map rowD))) (.val (.int k)) t9 t10 .un .un .un) = some (.int (stS b m).length, wE b m p a1 c n1 A (.val (.ptp ((dueL b m F).map rowD))) (.val (.int k)) t9 t10 .un .un .un) := fB1_of rfl rfl (by
      show some (D.int (((stS b m).map tupI).length : Nat)) = _
      rw [List.length_map])
    have mn : fB gMin (flCons (fLd (fC (.int 6))) (flCons (fLd (fB gLen (flCons (fLv 6) flNil))) flNil)) (wE b m p a1 c n1 A (.val (.ptp ((dueL b m F).map rowD))) (.val (.int k)) t9 t10 .un .un .un) = some (.int w, wE b m p a1 c n1 A (.val (.ptp ((dueL b m F).map rowD))) (.val (.int k)) t9 t10 .un .un .un) := by
      rw [hw]
      exact fB_of (flCons_of rfl (flCons_of (fLd_of ln) rfl)) rfl rfl
    have cl := call_io (fn := N__law_some) (ms := [false, false]) (fs := flCons (fLv 0) (flCons (fLv 6) (flCons (fLd (fB gMin (flCons (fLd (fC (.int 6))) (flCons (fLd (fB gLen (flCons (fLv 6) flNil))) flNil)))) flNil))) (env := wE b m p a1 c n1 A (.val (.ptp ((dueL b m F).map rowD))) (.val (.int k)) t9 t10 .un .un .un) (i := 0) (by decide) (flCons_of rfl (flCons_of rfl (flCons_of (fLd_of mn) rfl))) rfl hs
    obtain ⟨env', hl, t11, n11, rfl⟩ := loopD_inv (α := List Int) (ι := tupI) (g := setE 11) (f := bodyV8)
      (fun i env => ∃ t11 : Sl, t11.mine = true ∧ env = wE b m p a2 c n2 A (.val (.ptp ((dueL b m F).map rowD))) (.val (.int k)) t9 t10 t11 .un .un) (xs := M) (k := 0) (env := wE b m p a2 c n2 A (.val (.ptp ((dueL b m F).map rowD))) (.val (.int k)) t9 t10 .un .un .un) (fun i s hi env he => by
        obtain ⟨t11, n11, rfl⟩ := he
        exact ⟨wE b m p a2 c n2 A (.val (.ptp ((dueL b m F).map rowD))) (.val (.int k)) t9 t10 (.val (tupI s)) .un .un, setE_mine rfl n11, _, .inl (bodyV8_ok h hp hF r (hM s (List.mem_of_getElem? hi))), _, rfl, rfl⟩) ⟨.un, rfl, rfl⟩
    exact ⟨t11, n11, forD_of (e := wE b m p a2 c n2 A (.val (.ptp ((dueL b m F).map rowD))) (.val (.int k)) t9 t10 .un .un .un) (by
      unfold fiSeq
      rw [cl]
      rfl) hl⟩
  obtain ⟨t11, n11, a11⟩ := hl8
  have a12 : fSet 12 (fCall [false, false, false] N__law_steadied (flCons (fLv 4) (flCons (fLv 5) (flCons (fLd (fB gTuple (flCons (fLd (fComp (fiRng1 (flCons (fLv 1) flNil)) (setE 14) fYes (fB gInt (flCons (fLv 14) flNil)) [14])) flNil))) flNil)))) (wE b m p a2 c n2 A (.val (.ptp ((dueL b m F).map rowD))) (.val (.int k)) t9 t10 t11 .un .un) = some (.nx (wE b m p a2 c n2 A (.val (.ptp ((dueL b m F).map rowD))) (.val (.int k)) t9 t10 t11 (.val (dF D.int A2)) .un)) := by
    have bb : 0 ≤ b ∧ b ≤ 10 := by
      have : ∀ x ∈ sizes, 0 ≤ x.1 ∧ x.1 ≤ 10 := by decide
      exact this _ h
    have c1 : fComp (fiRng1 (flCons (fLv 1) flNil)) (setE 14) fYes (fB gInt (flCons (fLv 14) flNil)) [14] (wE b m p a2 c n2 A (.val (.ptp ((dueL b m F).map rowD))) (.val (.int k)) t9 t10 t11 .un .un) = some (.lst ((rngI 0 b).map D.int), wE b m p a2 c n2 A (.val (.ptp ((dueL b m F).map rowD))) (.val (.int k)) t9 t10 t11 .un .un) :=
      fComp_all (ι := D.int) (xs := rngI 0 b) D.int (fun i => (wE b m p a2 c n2 A (.val (.ptp ((dueL b m F).map rowD))) (.val (.int k)) t9 t10 t11 .un .un).set 14 (.val (.int i))) (env1 := wE b m p a2 c n2 A (.val (.ptp ((dueL b m F).map rowD))) (.val (.int k)) t9 t10 t11 .un .un) (by
        show (if -(2 ^ 62) ≤ b ∧ b < 2 ^ 62 then some (rngD 0 b.toNat, _) else none) = _
        rw [if_pos (by omega), ← rngD_is, Int.sub_zero]) (by rw [rngI_len]; exact Nat.le_trans (by omega) (show 10 ≤ mx by decide)) rfl rfl rfl fun i _ => ⟨rfl, rfl, rfl, rfl⟩
    exact set_of (fCall_gives (by decide) (flCons_of rfl (flCons_of rfl (flCons_of (fLd_of (fB1_of (fLd_of c1) rfl rfl)) rfl))) rfl (sp_law_steadied ok hA2)) rfl
  have rows13 : fComp (fiSeq (fVar 6)) (setE 11) (fTest (fOp2 gNotIn (fLv 11) (fLv 5))) (fTup (faCons (fVar 11) (faCons (fGet1 (fLv 12) (fLv 11)) faNil))) [11] (wE b m p a2 c n2 A (.val (.ptp ((dueL b m F).map rowD))) (.val (.int k)) t9 t10 t11 (.val (dF D.int A2)) .un) = some (.lst ((safeS b m F).map fun s => rowD (s, lvO G s)), wE b m p a2 c n2 A (.val (.ptp ((dueL b m F).map rowD))) (.val (.int k)) t9 t10 (keepS (some t11)) (.val (dF D.int A2)) .un) :=
    comp_safe h r n11 fun s _ => by
      have g := get1_ok (A := A2) (s := s) (i := 12) (j := 11) (env := wE b m p a2 c n2 A (.val (.ptp ((dueL b m F).map rowD))) (.val (.int k)) t9 t10 (.val (tupI s)) (.val (dF D.int A2)) .un) rfl rfl rfl rfl
      rw [rel_lvO r2 s] at g
      have v : fVar 11 (wE b m p a2 c n2 A (.val (.ptp ((dueL b m F).map rowD))) (.val (.int k)) t9 t10 (.val (tupI s)) (.val (dF D.int A2)) .un) = some (tupI s, wE b m p a2 c n2 A (.val (.ptp ((dueL b m F).map rowD))) (.val (.int k)) t9 t10 (.val (tupI s)) (.val (dF D.int A2)) .un) := rfl
      have : faCons (fVar 11) (faCons (fGet1 (fLv 12) (fLv 11)) faNil) (wE b m p a2 c n2 A (.val (.ptp ((dueL b m F).map rowD))) (.val (.int k)) t9 t10 (.val (tupI s)) (.val (dF D.int A2)) .un) = some ([tupI s, lvD (lvO G s)], wE b m p a2 c n2 A (.val (.ptp ((dueL b m F).map rowD))) (.val (.int k)) t9 t10 (.val (tupI s)) (.val (dF D.int A2)) .un) := by
        simp only [faCons, v, g]
        rfl
      unfold fTup
      rw [this]
      rfl
  have a13 := set_of (i := 13) (fB1_of (g := gTuple) (fLd_of rows13) rfl rfl) rfl
  obtain ⟨t2, q1, q2⟩ := repr_rows (V := (safeS b m F).map fun s => (s, lvO G s)) h (fun x hx => by
    obtain ⟨s, hs, rfl⟩ := List.mem_map.mp hx
    exact safeS_sub.subset hs) (by rw [List.length_map]; exact Nat.le_trans safeS_sub.length_le z.len) (bnd _ _ _ rfl (lvOb G (stdF_bd hG)))
  rw [List.map_map] at q1
  have fin : fRet (feIf (fTest (fOp2 gEq (fLd (fB gRepr (flCons (fLd (fCall [false, false, false] S_steadied (flCons (fLv 1) (flCons (fLv 2) (flCons (fLv 3) flNil))))) flNil))) (fLd (fB gRepr (flCons (fLv 13) flNil))))) (fComp (fiSeq (fVar 6)) (setE 11) (fTest (fOp2 gNotIn (fLv 11) (fLv 5))) (fVar 11) [11]) (fC .non)) (wE b m p a2 c n2 A (.val (.ptp ((dueL b m F).map rowD))) (.val (.int k)) t9 t10 (keepS (some t11)) (.val (dF D.int A2)) (.val (.tup ((safeS b m F).map fun s => rowD (s, lvO G s)))))
      = some (.rt false (.lst ((safeS b m F).map tupI)) (wE b m p a2 c n2 A (.val (.ptp ((dueL b m F).map rowD))) (.val (.int k)) t9 t10 (keepS (some (keepS (some t11)))) (.val (dF D.int A2)) (.val (.tup ((safeS b m F).map fun s => rowD (s, lvO G s)))))) := by
    have c1 : fCall [false, false, false] S_steadied (flCons (fLv 1) (flCons (fLv 2) (flCons (fLv 3) flNil))) (wE b m p a2 c n2 A (.val (.ptp ((dueL b m F).map rowD))) (.val (.int k)) t9 t10 (keepS (some t11)) (.val (dF D.int A2)) (.val (.tup ((safeS b m F).map fun s => rowD (s, lvO G s))))) = some (.tup ((safeS b m F).map fun s => rowD (s, lvO G s)), wE b m p a2 c n2 A (.val (.ptp ((dueL b m F).map rowD))) (.val (.int k)) t9 t10 (keepS (some t11)) (.val (dF D.int A2)) (.val (.tup ((safeS b m F).map fun s => rowD (s, lvO G s))))) := fCall_gives (by decide) rfl rfl (g_steadied h hp hF hG)
    refine ret_of (feif_tt (test_op2 (fLd_of (fB1_of (fLd_of c1) rfl q1)) (fLd_of (fB1_of rfl rfl q1)) rfl rfl (eq_str t2)) ?_)
    exact comp_safe h r keepS_mine fun s _ => rfl
  have all : f__law_is_slip_right N__law_clashes N__law_game N__law_is_told_right N__law_safe_throws N__law_some N__law_steadied N__law_take S_clashes S_safe S_safe_throws S_shows_clashes S_steadied (vE b m p a c n .un .un .un .un .un .un .un .un .un .un) = some (.rt false (.lst ((safeS b m F).map tupI)) (wE b m p a2 c n2 A (.val (.ptp ((dueL b m F).map rowD))) (.val (.int k)) t9 t10 (keepS (some (keepS (some t11)))) (.val (dF D.int A2)) (.val (.tup ((safeS b m F).map fun s => rowD (s, lvO G s)))))) := by
    unfold f__law_is_slip_right
    exact seq_nx a4 (seq_nx a56 (seq_nx b3 (seq_nx a7 (seq_nx b8 (seq_nx a8 (seq_nx a9 (seq_nx a11 (seq_nx a12 (seq_nx a13 fin)))))))))
  refine ⟨a2, n2, (wE b m p a2 c n2 A (.val (.ptp ((dueL b m F).map rowD))) (.val (.int k)) t9 t10 (keepS (some (keepS (some t11)))) (.val (dF D.int A2)) (.val (.tup ((safeS b m F).map fun s => rowD (s, lvO G s))))).tail.map dOf, ?_, pot2.le (by omega)⟩
  unfold SLIP runD
  show (match f__law_is_slip_right N__law_clashes N__law_game N__law_is_told_right N__law_safe_throws N__law_some N__law_steadied N__law_take S_clashes S_safe S_safe_throws S_shows_clashes S_steadied (vE b m p a c n .un .un .un .un .un .un .un .un .un .un) with
      | some (.rt fr d e) => some (fr, d, e.map dOf)
      | some (.nx e) => some (false, .non, e.map dOf)
      | _ => none) = _
  rw [all]
  rfl
end Law
namespace DL
open PySem L2
theorem callF_of {ms : List Bool} {fn : Fn} {fs : FLs} {env e : En} {ls : List LV} {ds outs : List D} {r : D} (hm : ∀ m ∈ ms, m = false) (h1 : fs env = some (ls, e)) (h2 : argsOf ms ls e = some ds) (h3 : fn ds = some (true, r, outs)) : fCallF ms fn fs env = some (r, e) := by
  have no : ∀ {ms : List Bool} {ls : List LV}, (∀ m ∈ ms, m = false) → iosOf ms ls = [] ∧ ∀ os env, putOuts ms ls os env = env := by
    intro ms
    induction ms with
    | nil => intro ls _; exact ⟨by simp [iosOf], fun os env => by simp [putOuts]⟩
    | cons m ms ih =>
      intro ls hm
      have e : m = false := hm m List.mem_cons_self
      subst e
      cases ls with
      | nil => exact ⟨rfl, fun os env => by simp [putOuts]⟩
      | cons l ls =>
        obtain ⟨i1, i2⟩ := ih (ls := ls) fun m h => hm m (List.mem_cons_of_mem _ h)
        refine ⟨by cases l <;> exact i1, fun os env => ?_⟩
        cases os with
        | nil => cases l <;> simp [putOuts]
        | cons o os => cases l <;> exact i2 os env
  unfold fCallF
  rw [h1]
  simp only
  rw [h2]
  simp only
  rw [if_pos (by rw [(no hm).1]; exact List.nodup_nil), h3]
  simp only
  rw [(no hm).2]
theorem setO_of {i : Nat} {fe : FE} {env e e2 : En} {d : D} (h : fe env = some (d, e)) (h2 : ownE i d e = some e2) : fSetO i fe env = some (.nx e2) := by
  unfold fSetO
  rw [h]
  simp only [h2, Option.map_some]
end DL
namespace Law
open PySem L2 DL
def lE (ns : List Int) (s1 s2 s3 s4 s5 s6 s7 s8 : Sl) : En := [.val (.frl (ns.map D.int)), s1, s2, s3, s4, s5, s6, s7, s8, .un]
def szD : D := .lst (sizes.map fun x => .tup [.int x.1, .int x.2])
abbrev bodyL : FS := (fSeq (fSet 8 (fCall [true, false, false, false] SLIP (flCons (fLv 2) (flCons (fLv 4) (flCons (fLv 5) (flCons (fLv 7) flNil))))))
    (fSeq (fIf (ftOr (fTest (fOp2 gIs (fLv 8) (fLd (fC .non)))) (ftAnd (fTest (fOp2 gIsNot (fLv 6) (fLd (fC .non)))) (ftNot (fTest (fB gAll (flCons (fLd (fComp (fiSeq (fVar 8)) (setE 9) fYes (fOp2 gIn (fLv 9) (fLv 6)) [9])) flNil))))))
    (fRet (fC (.bl false)))
    fSkip)
    (fSeq (fIf (ftAnd (fTest (fOp2 gEq (fLv 7) (fLd (fC (.int 0))))) (fTest (fOp2 gNe (fLd (fB gLen (flCons (fLv 8) flNil))) (fLd (fCall [false, false] N__law_choose (flCons (fLv 5) (flCons (fLv 4) flNil)))))))
    (fRet (fC (.bl false)))
    fSkip)
    (fSet 6 (fVar 8)))))
def Elder (b m p : Int) (s6 : Sl) : Prop := s6 = .val .non ∨ ∃ q F, q ≤ p ∧ lvls b m q = some F ∧ s6 = .val (.lst ((safeS b m F).map tupI))
theorem bodyL_ok {N : Int} {ns : List Int} {b m p a c n : Int} {s1 s3 s6 s8 : Sl} (h : (b, m) ∈ sizes) (hp : 0 ≤ p ∧ p ≤ 5) (pot : PotOk N a c n) (hN : 0 ≤ N ∧ N ≤ 900) (he : Elder b m p s6) (m8 : s8.mine = true) :
    ∃ a' n' F t8, PotOk (N + 10) a' c n' ∧ lvls b m p = some F ∧ t8.mine = true ∧
      bodyL (lE ns s1 (.own false (potD a c n)) s3 (.val (.int b)) (.val (.int m)) s6 (.val (.int p)) s8) = some (.nx (lE ns s1 (.own false (potD a' c n')) s3 (.val (.int b)) (.val (.int m)) (.val (.lst ((safeS b m F).map tupI))) (.val (.int p)) t8)) := by
  have z := sz_of h
  obtain ⟨F, hF⟩ := lvls_some p z
  obtain ⟨a', n', outs, hs, pot'⟩ := slip_ok h hp hF pot hN
  refine ⟨a', n', F, .val (.lst ((safeS b m F).map tupI)), pot', hF, rfl, ?_⟩
  have a8 : fSet 8 (fCall [true, false, false, false] SLIP (flCons (fLv 2) (flCons (fLv 4) (flCons (fLv 5) (flCons (fLv 7) flNil))))) (lE ns s1 (.own false (potD a c n)) s3 (.val (.int b)) (.val (.int m)) s6 (.val (.int p)) s8) = some (.nx (lE ns s1 (.own false (potD a' c n')) s3 (.val (.int b)) (.val (.int m)) s6 (.val (.int p)) (.val (.lst ((safeS b m F).map tupI))))) :=
    set_of (e := lE ns s1 (.own false (potD a' c n')) s3 (.val (.int b)) (.val (.int m)) s6 (.val (.int p)) s8) (call_io (ms := [false, false, false]) (i := 2) (e := lE ns s1 (.own false (potD a c n)) s3 (.val (.int b)) (.val (.int m)) s6 (.val (.int p)) s8) (by decide) rfl rfl hs) (setE_mine rfl m8)
  have sl : (safeS b m F).length ≤ 60 := Nat.le_trans safeS_sub.length_le z.len
  have t1 : fTest (fOp2 gIs (fLv 8) (fLd (fC .non))) (lE ns s1 (.own false (potD a' c n')) s3 (.val (.int b)) (.val (.int m)) s6 (.val (.int p)) (.val (.lst ((safeS b m F).map tupI)))) = some (false, lE ns s1 (.own false (potD a' c n')) s3 (.val (.int b)) (.val (.int m)) s6 (.val (.int p)) (.val (.lst ((safeS b m F).map tupI)))) := rfl
  have b1 : (fIf (ftOr (fTest (fOp2 gIs (fLv 8) (fLd (fC .non)))) (ftAnd (fTest (fOp2 gIsNot (fLv 6) (fLd (fC .non)))) (ftNot (fTest (fB gAll (flCons (fLd (fComp (fiSeq (fVar 8)) (setE 9) fYes (fOp2 gIn (fLv 9) (fLv 6)) [9])) flNil))))))
    (fRet (fC (.bl false)))
    fSkip) (lE ns s1 (.own false (potD a' c n')) s3 (.val (.int b)) (.val (.int m)) s6 (.val (.int p)) (.val (.lst ((safeS b m F).map tupI)))) = some (.nx (lE ns s1 (.own false (potD a' c n')) s3 (.val (.int b)) (.val (.int m)) s6 (.val (.int p)) (.val (.lst ((safeS b m F).map tupI))))) := by
    rcases he with rfl | ⟨q, F', hq, hF', rfl⟩
    · exact if_ff (or_ff t1 (and_ff rfl)) rfl
    · have c1 := fComp_all (ι := tupI) (xs := safeS b m F) (fun s => .bl (decide (s ∈ safeS b m F'))) (fun s => (lE ns s1 (.own false (potD a' c n')) s3 (.val (.int b)) (.val (.int m)) (.val (.lst ((safeS b m F').map tupI))) (.val (.int p)) (.val (.lst ((safeS b m F).map tupI)))).set 9 (.val (tupI s))) (fi := fiSeq (fVar 8)) (g := setE 9) (f := fOp2 gIn (fLv 9) (fLv 6)) (vs := [9]) (env := lE ns s1 (.own false (potD a' c n')) s3 (.val (.int b)) (.val (.int m)) (.val (.lst ((safeS b m F').map tupI))) (.val (.int p)) (.val (.lst ((safeS b m F).map tupI)))) (env1 := lE ns s1 (.own false (potD a' c n')) s3 (.val (.int b)) (.val (.int m)) (.val (.lst ((safeS b m F').map tupI))) (.val (.int p)) (.val (.lst ((safeS b m F).map tupI)))) rfl (Nat.le_trans sl (by decide)) rfl rfl rfl fun s hs => ⟨rfl, rfl, rfl, op2_of rfl rfl rfl rfl (by
        show gIn (tupI s) (.lst ((safeS b m F').map tupI)) = _
        unfold gIn
        rw [inB_tups]
        rfl)⟩
      have t2 : ftNot (fTest (fB gAll (flCons (fLd (fComp (fiSeq (fVar 8)) (setE 9) fYes (fOp2 gIn (fLv 9) (fLv 6)) [9])) flNil))) (lE ns s1 (.own false (potD a' c n')) s3 (.val (.int b)) (.val (.int m)) (.val (.lst ((safeS b m F').map tupI))) (.val (.int p)) (.val (.lst ((safeS b m F).map tupI)))) = some (false, lE ns s1 (.own false (potD a' c n')) s3 (.val (.int b)) (.val (.int m)) (.val (.lst ((safeS b m F').map tupI))) (.val (.int p)) (.val (.lst ((safeS b m F).map tupI)))) := by
        unfold ftNot
        rw [test_of' (k := true) (fB1_of (fLd_of c1) rfl (by
          rw [show ((safeS b m F).map fun s => D.bl (decide (s ∈ safeS b m F'))) = ((safeS b m F).map fun s => decide (s ∈ safeS b m F')).map D.bl by rw [List.map_map]; rfl, all_bls, List.all_map]
          congr 2
          rw [List.all_eq_true]
          exact fun s hs => decide_eq_true (safe_mono h hq hF' hF s hs)))]
        rfl
      exact if_ff (or_ff t1 (and_tt rfl t2)) rfl
  have b2 : (fIf (ftAnd (fTest (fOp2 gEq (fLv 7) (fLd (fC (.int 0))))) (fTest (fOp2 gNe (fLd (fB gLen (flCons (fLv 8) flNil))) (fLd (fCall [false, false] N__law_choose (flCons (fLv 5) (flCons (fLv 4) flNil)))))))
    (fRet (fC (.bl false)))
    fSkip) (lE ns s1 (.own false (potD a' c n')) s3 (.val (.int b)) (.val (.int m)) s6 (.val (.int p)) (.val (.lst ((safeS b m F).map tupI)))) = some (.nx (lE ns s1 (.own false (potD a' c n')) s3 (.val (.int b)) (.val (.int m)) s6 (.val (.int p)) (.val (.lst ((safeS b m F).map tupI))))) := by
    have t3 : fTest (fOp2 gEq (fLv 7) (fLd (fC (.int 0)))) (lE ns s1 (.own false (potD a' c n')) s3 (.val (.int b)) (.val (.int m)) s6 (.val (.int p)) (.val (.lst ((safeS b m F).map tupI)))) = some (decide (p = 0), lE ns s1 (.own false (potD a' c n')) s3 (.val (.int b)) (.val (.int m)) s6 (.val (.int p)) (.val (.lst ((safeS b m F).map tupI)))) := test_op2 rfl rfl rfl rfl rfl
    by_cases p0 : p = 0
    · subst p0
      have ln : fB gLen (flCons (fLv 8) flNil) (lE ns s1 (.own false (potD a' c n')) s3 (.val (.int b)) (.val (.int m)) s6 (.val (.int 0)) (.val (.lst ((safeS b m F).map tupI)))) = some (.int (stS b m).length, lE ns s1 (.own false (potD a' c n')) s3 (.val (.int b)) (.val (.int m)) s6 (.val (.int 0)) (.val (.lst ((safeS b m F).map tupI)))) := fB1_of rfl rfl (by
        show some (D.int (((safeS b m F).map tupI).length : Nat)) = _
        rw [List.length_map, safe_zero h hF])
      have ch : fCall [false, false] N__law_choose (flCons (fLv 5) (flCons (fLv 4) flNil)) (lE ns s1 (.own false (potD a' c n')) s3 (.val (.int b)) (.val (.int m)) s6 (.val (.int 0)) (.val (.lst ((safeS b m F).map tupI)))) = some (.int (stS b m).length, lE ns s1 (.own false (potD a' c n')) s3 (.val (.int b)) (.val (.int m)) s6 (.val (.int 0)) (.val (.lst ((safeS b m F).map tupI)))) := fCall_gives (by decide) rfl rfl (sp_law_choose h)
      exact if_ff (and_tt t3 (test_op2 (fLd_of ln) (fLd_of ch) rfl rfl (by
        show some (D.bl (!decide (((stS b m).length : Int) = (stS b m).length))) = _
        rw [decide_eq_true rfl]
        rfl))) rfl
    · rw [decide_eq_false p0] at t3
      exact if_ff (and_ff t3) rfl
  have m6 : s6.mine = true := by
    rcases he with rfl | ⟨_, _, _, _, rfl⟩ <;> rfl
  exact seq_nx a8 (seq_nx b1 (seq_nx b2 (set_of (d := .lst ((safeS b m F).map tupI)) (e := lE ns s1 (.own false (potD a' c n')) s3 (.val (.int b)) (.val (.int m)) s6 (.val (.int p)) (.val (.lst ((safeS b m F).map tupI)))) rfl (setE_mine rfl m6))))
abbrev listL : FE := fLst (faCons (fC (.int 0)) (faCons (fOp2 DL.gAdd (fLd (fC (.int 1))) (fLd (fB gInt (flCons (fLd (fCall [true, false] N__law_take (flCons (fLv 2) (flCons (fLd (fC (.int 2))) flNil)))) flNil)))) (faCons (fOp2 DL.gAdd (fLd (fC (.int 3))) (fLd (fB gInt (flCons (fLd (fCall [true, false] N__law_take (flCons (fLv 2) (flCons (fLd (fC (.int 3))) flNil)))) flNil)))) faNil)))
abbrev loopL : FS := fFor (fiSeq listL) (setE 7) bodyL
theorem take_at {ns : List Int} {N a c n u : Int} {s1 s3 s4 s5 s6 s7 s8 : Sl} (pot : PotOk N a c n) (hN : N ≤ 1000) (hu : 1 ≤ u ∧ u < 1073741824) (w : Int) : ∃ d a' n', PotOk (N + 1) a' c n' ∧ 0 ≤ d ∧ d < u ∧
    fOp2 DL.gAdd (fLd (fC (.int w))) (fLd (fB gInt (flCons (fLd (fCall [true, false] N__law_take (flCons (fLv 2) (flCons (fLd (fC (.int u))) flNil)))) flNil))) (lE ns s1 (.own false (potD a c n)) s3 s4 s5 s6 s7 s8) = some (.int (w + d), lE ns s1 (.own false (potD a' c n')) s3 s4 s5 s6 s7 s8) := by
  obtain ⟨d, a', n', outs, ht, pot', d0, d1⟩ := take_ok pot hN hu
  have cl : fCall [true, false] N__law_take (flCons (fLv 2) (flCons (fLd (fC (.int u))) flNil)) (lE ns s1 (.own false (potD a c n)) s3 s4 s5 s6 s7 s8) = some (.int d, lE ns s1 (.own false (potD a' c n')) s3 s4 s5 s6 s7 s8) := call_io (ms := [false]) (i := 2) (e := lE ns s1 (.own false (potD a c n)) s3 s4 s5 s6 s7 s8) (by decide) rfl rfl ht
  exact ⟨d, a', n', pot', d0, d1, op2_of rfl (fLd_of (fB1_of (fLd_of cl) rfl rfl)) rfl rfl rfl⟩
theorem loopL_ok {ns : List Int} {b m a c n : Int} {s1 s3 s7 s8 : Sl} (h : (b, m) ∈ sizes) (pot : PotOk 10 a c n) (m7 : s7.mine = true) (m8 : s8.mine = true) :
    ∃ a' n' t6 t7 t8, t6.mine = true ∧ t7.mine = true ∧ t8.mine = true ∧ loopL (lE ns s1 (.own false (potD a c n)) s3 (.val (.int b)) (.val (.int m)) (.val .non) s7 s8) = some (.nx (lE ns s1 (.own false (potD a' c n')) s3 (.val (.int b)) (.val (.int m)) t6 t7 t8)) := by
  obtain ⟨d1, a1, n1, pot1, d10, d11, h1⟩ := take_at (ns := ns) (s1 := s1) (s3 := s3) (s4 := .val (.int b)) (s5 := .val (.int m)) (s6 := .val .non) (s7 := s7) (s8 := s8) (u := 2) pot (by decide) (by decide) 1
  obtain ⟨d2, a2, n2, pot2, d20, d21, h2⟩ := take_at (ns := ns) (s1 := s1) (s3 := s3) (s4 := .val (.int b)) (s5 := .val (.int m)) (s6 := .val .non) (s7 := s7) (s8 := s8) (u := 3) pot1 (by decide) (by decide) 3
  have hls : listL (lE ns s1 (.own false (potD a c n)) s3 (.val (.int b)) (.val (.int m)) (.val .non) s7 s8) = some (.lst ([0, 1 + d1, 3 + d2].map D.int), lE ns s1 (.own false (potD a2 c n2)) s3 (.val (.int b)) (.val (.int m)) (.val .non) s7 s8) := by
    have f0 : fC (.int 0) (lE ns s1 (.own false (potD a c n)) s3 (.val (.int b)) (.val (.int m)) (.val .non) s7 s8) = some (.int 0, lE ns s1 (.own false (potD a c n)) s3 (.val (.int b)) (.val (.int m)) (.val .non) s7 s8) := rfl
    have : faCons (fC (.int 0)) (faCons (fOp2 DL.gAdd (fLd (fC (.int 1))) (fLd (fB gInt (flCons (fLd (fCall [true, false] N__law_take (flCons (fLv 2) (flCons (fLd (fC (.int 2))) flNil)))) flNil)))) (faCons (fOp2 DL.gAdd (fLd (fC (.int 3))) (fLd (fB gInt (flCons (fLd (fCall [true, false] N__law_take (flCons (fLv 2) (flCons (fLd (fC (.int 3))) flNil)))) flNil)))) faNil)) (lE ns s1 (.own false (potD a c n)) s3 (.val (.int b)) (.val (.int m)) (.val .non) s7 s8) = some ([.int 0, .int (1 + d1), .int (3 + d2)], lE ns s1 (.own false (potD a2 c n2)) s3 (.val (.int b)) (.val (.int m)) (.val .non) s7 s8) := by
      simp only [faCons, f0, h1, h2]
      rfl
    unfold listL fLst
    rw [this]
    rfl
  obtain ⟨env', hl, a', n', t6, t7, t8, _, _, n6, n7, n8, rfl⟩ := loopD_inv (α := Int) (ι := D.int) (g := setE 7) (f := bodyL)
    (fun i env => ∃ (a' n' : Int) (t6 t7 t8 : Sl), PotOk (12 + 10 * (i : Nat)) a' c n' ∧ (∀ j x, [0, 1 + d1, 3 + d2][j]? = some x → i ≤ j → Elder b m x t6) ∧ t6.mine = true ∧ t7.mine = true ∧ t8.mine = true ∧ env = lE ns s1 (.own false (potD a' c n')) s3 (.val (.int b)) (.val (.int m)) t6 t7 t8) (xs := [0, 1 + d1, 3 + d2]) (k := 0) (env := lE ns s1 (.own false (potD a2 c n2)) s3 (.val (.int b)) (.val (.int m)) (.val .non) s7 s8) (fun i x hx env he => by
      obtain ⟨a', n', t6, t7, t8, hp', hel, n6, n7, n8, rfl⟩ := he
      rw [Nat.zero_add] at hp' hel ⊢
      have hi := (List.getElem?_eq_some_iff.mp hx).1
      have hi3 : i < 3 := hi
      have hxb : 0 ≤ x ∧ x ≤ 5 := by
        have : x ∈ [0, 1 + d1, 3 + d2] := List.mem_of_getElem? hx
        simp at this
        omega
      obtain ⟨a3, n3, F, u8, pot3, hF, v8, hb⟩ := bodyL_ok (ns := ns) (s1 := s1) (s3 := s3) (s6 := t6) (s8 := t8) h hxb hp' (by omega) (hel i x hx (Nat.le_refl _)) n8
      refine ⟨lE ns s1 (.own false (potD a' c n')) s3 (.val (.int b)) (.val (.int m)) t6 (.val (.int x)) t8, setE_mine rfl n7, _, .inl hb, a3, n3, .val (.lst ((safeS b m F).map tupI)), .val (.int x), u8, by
        rw [show (12 : Int) + 10 * ((i + 1 : Nat) : Int) = 12 + 10 * (i : Nat) + 10 by omega]; exact pot3, fun j y hy hj => .inr ⟨x, F, ?_, hF, rfl⟩, rfl, rfl, v8, rfl⟩
      have hj3 : j < 3 := (List.getElem?_eq_some_iff.mp hy).1
      have cs : (i = 0 ∧ j = 1) ∨ (i = 0 ∧ j = 2) ∨ (i = 1 ∧ j = 2) := by omega
      rcases cs with ⟨rfl, rfl⟩ | ⟨rfl, rfl⟩ | ⟨rfl, rfl⟩ <;> simp at hx hy <;> omega) ⟨a2, n2, .val .non, s7, s8, pot2.le (by decide), fun _ _ _ _ => .inl rfl, rfl, m7, m8, rfl⟩
  exact ⟨a', n', t6, t7, t8, n6, n7, n8, forD_of (by unfold fiSeq; rw [hls]; rfl) hl⟩
abbrev bodyP : FS := (fSeq (fSetO 2 (fCallF [false, false] N__law_pot (flCons (fLv 0) (flCons (fLv 1) flNil))))
    (fSeq (fSet 3 (fLst (faCons (fTup (faCons (fC (.int 1)) (faCons (fC (.int 9)) faNil))) (faCons (fTup (faCons (fC (.int 1)) (faCons (fC (.int 5)) faNil))) (faCons (fTup (faCons (fC (.int 2)) (faCons (fC (.int 6)) faNil))) (faCons (fTup (faCons (fC (.int 2)) (faCons (fC (.int 9)) faNil))) (faCons (fTup (faCons (fC (.int 3)) (faCons (fC (.int 6)) faNil))) (faCons (fTup (faCons (fC (.int 3)) (faCons (fC (.int 8)) faNil))) (faCons (fTup (faCons (fC (.int 4)) (faCons (fC (.int 6)) faNil))) (faCons (fTup (faCons (fC (.int 4)) (faCons (fC (.int 7)) faNil))) (faCons (fTup (faCons (fC (.int 5)) (faCons (fC (.int 6)) faNil))) (faCons (fTup (faCons (fC (.int 6)) (faCons (fC (.int 8)) faNil))) (faCons (fTup (faCons (fC (.int 7)) (faCons (fC (.int 9)) faNil))) (faCons (fTup (faCons (fC (.int 0)) (faCons (fC (.int 3)) faNil))) (faCons (fTup (faCons (fC (.int 3)) (faCons (fC (.int 3)) faNil))) faNil)))))))))))))))
    (fSeq (fAsg (fCall [true, false] N__law_of (flCons (fLv 2) (flCons (fLv 3) flNil))) (fgTup (fgCons (setE 4) (fgCons (setE 5) fgNil)) 2))
    (fSeq (fSet 6 (fC .non))
    (fFor (fiSeq (fLst (faCons (fC (.int 0)) (faCons (fOp2 DL.gAdd (fLd (fC (.int 1))) (fLd (fB gInt (flCons (fLd (fCall [true, false] N__law_take (flCons (fLv 2) (flCons (fLd (fC (.int 2))) flNil)))) flNil)))) (faCons (fOp2 DL.gAdd (fLd (fC (.int 3))) (fLd (fB gInt (flCons (fLd (fCall [true, false] N__law_take (flCons (fLv 2) (flCons (fLd (fC (.int 3))) flNil)))) flNil)))) faNil))))) (setE 7)
    (fSeq (fSet 8 (fCall [true, false, false, false] SLIP (flCons (fLv 2) (flCons (fLv 4) (flCons (fLv 5) (flCons (fLv 7) flNil))))))
    (fSeq (fIf (ftOr (fTest (fOp2 gIs (fLv 8) (fLd (fC .non)))) (ftAnd (fTest (fOp2 gIsNot (fLv 6) (fLd (fC .non)))) (ftNot (fTest (fB gAll (flCons (fLd (fComp (fiSeq (fVar 8)) (setE 9) fYes (fOp2 gIn (fLv 9) (fLv 6)) [9])) flNil))))))
    (fRet (fC (.bl false)))
    fSkip)
    (fSeq (fIf (ftAnd (fTest (fOp2 gEq (fLv 7) (fLd (fC (.int 0))))) (fTest (fOp2 gNe (fLd (fB gLen (flCons (fLv 8) flNil))) (fLd (fCall [false, false] N__law_choose (flCons (fLv 5) (flCons (fLv 4) flNil)))))))
    (fRet (fC (.bl false)))
    fSkip)
    (fSet 6 (fVar 8))))))))))
def LAW : Fn := runD [false] 9 (f_law N__law_choose SLIP N__law_of N__law_places N__law_pot N__law_take)
theorem law_true (ns : List Int) (hl : ns.length ≤ 1000000) : ∃ fr outs, LAW [.frl (ns.map D.int)] = some (fr, .bl true, outs) := by
  suffices Gives LAW [.frl (ns.map D.int)] false (.bl true) from ⟨false, this⟩
  have pl : fiSeq (fCall [false, false] N__law_places (flCons (fLv 0) (flCons (fLd (fC (.int 3))) flNil))) (lE ns .un .un .un .un .un .un .un .un) = some ((rngI 0 (mxI 1 (mnI 3 ns.length))).map D.int, lE ns .un .un .un .un .un .un .un .un) := by
    unfold fiSeq
    rw [fCall_gives (by decide) rfl rfl (sp_law_places ns hl)]
    rfl
  suffices key : ∃ env', f_law N__law_choose SLIP N__law_of N__law_places N__law_pot N__law_take (lE ns .un .un .un .un .un .un .un .un) = some (.rt false (.bl true) env') by
    obtain ⟨env', key⟩ := key
    exact gives_run (e := env') rfl key
  unfold f_law
  obtain ⟨env', hl, _⟩ := loopD_inv (α := Int) (ι := D.int) (g := setE 1) (f := bodyP)
    (fun i env => ∃ s1 s2 s3 s4 s5 s6 s7 s8 : Sl, s1.mine = true ∧ s2.mine = true ∧ s3.mine = true ∧ s4.mine = true ∧ s5.mine = true ∧ s6.mine = true ∧ s7.mine = true ∧ s8.mine = true ∧ env = lE ns s1 s2 s3 s4 s5 s6 s7 s8) (xs := rngI 0 (mxI 1 (mnI 3 ns.length))) (k := 0) (env := lE ns .un .un .un .un .un .un .un .un) (fun i place hx env he => by
      obtain ⟨s1, s2, s3, s4, s5, s6, s7, s8, m1, m2, m3, m4, m5, m6, m7, m8, rfl⟩ := he
      have hpl := mem_rngI.mp (List.mem_of_getElem? hx)
      have hc : (0 ≤ place ∧ place < ns.length ∧ place ≤ 1000) ∨ (ns = [] ∧ place = 0) := by
        have : mxI 1 (mnI 3 ns.length) ≤ 3 := by unfold mxI mnI; split <;> split <;> omega
        by_cases e : ns = []
        · subst e
          right
          have : mxI 1 (mnI 3 (([] : List Int).length : Int)) = 1 := by decide
          rw [this] at hpl
          exact ⟨rfl, by omega⟩
        · left
          have lp : 1 ≤ ns.length := List.length_pos_iff.mpr e
          have : mxI 1 (mnI 3 ns.length) ≤ ns.length := by unfold mxI mnI; split <;> split <;> omega
          omega
      obtain ⟨a, c, outs, hpot, pot⟩ := pot_ok hc
      refine ⟨lE ns (.val (.int place)) s2 s3 s4 s5 s6 s7 s8, setE_mine rfl m1, ?_⟩
      have o2 : ownE 2 (potD a c 0) (lE ns (.val (.int place)) s2 s3 s4 s5 s6 s7 s8) = some (lE ns (.val (.int place)) (.own false (potD a c 0)) s3 s4 s5 s6 s7 s8) := by
        cases s2 with
        | un => rfl
        | val d => rfl
        | own io d => cases io with
          | true => cases m2
          | false => rfl
      have b2 : fSetO 2 (fCallF [false, false] N__law_pot (flCons (fLv 0) (flCons (fLv 1) flNil))) (lE ns (.val (.int place)) s2 s3 s4 s5 s6 s7 s8) = some (.nx (lE ns (.val (.int place)) (.own false (potD a c 0)) s3 s4 s5 s6 s7 s8)) := setO_of (callF_of (by decide) rfl rfl hpot) o2
      have hb3 : ∀ f : FE, f (lE ns (.val (.int place)) (.own false (potD a c 0)) s3 s4 s5 s6 s7 s8) = some (szD, lE ns (.val (.int place)) (.own false (potD a c 0)) s3 s4 s5 s6 s7 s8) → fSet 3 f (lE ns (.val (.int place)) (.own false (potD a c 0)) s3 s4 s5 s6 s7 s8) = some (.nx (lE ns (.val (.int place)) (.own false (potD a c 0)) (.val szD) s4 s5 s6 s7 s8)) := fun f hf => set_of hf (setE_mine rfl m3)
      obtain ⟨d, a1, n1, outs1, hof, pot1, hd⟩ := of_ok (ds := sizes.map fun x => .tup [.int x.1, .int x.2]) pot (by decide) (by decide)
      obtain ⟨⟨b, m⟩, hbm, rfl⟩ := List.mem_map.mp hd
      have c4 : fCall [true, false] N__law_of (flCons (fLv 2) (flCons (fLv 3) flNil)) (lE ns (.val (.int place)) (.own false (potD a c 0)) (.val szD) s4 s5 s6 s7 s8) = some (.tup [.int b, .int m], lE ns (.val (.int place)) (.own false (potD a1 c n1)) (.val szD) s4 s5 s6 s7 s8) := call_io (ms := [false]) (i := 2) (e := lE ns (.val (.int place)) (.own false (potD a c 0)) (.val szD) s4 s5 s6 s7 s8) (by decide) rfl rfl hof
      have b4 : fAsg (fCall [true, false] N__law_of (flCons (fLv 2) (flCons (fLv 3) flNil))) (fgTup (fgCons (setE 4) (fgCons (setE 5) fgNil)) 2) (lE ns (.val (.int place)) (.own false (potD a c 0)) (.val szD) s4 s5 s6 s7 s8) = some (.nx (lE ns (.val (.int place)) (.own false (potD a1 c n1)) (.val szD) (.val (.int b)) (.val (.int m)) s6 s7 s8)) :=
        asg_of c4 (show (fgCons (setE 4) (fgCons (setE 5) fgNil)) [.int b, .int m] _ = _ from fgPair rfl m4 rfl m5)
      have b6 : fSet 6 (fC .non) (lE ns (.val (.int place)) (.own false (potD a1 c n1)) (.val szD) (.val (.int b)) (.val (.int m)) s6 s7 s8) = some (.nx (lE ns (.val (.int place)) (.own false (potD a1 c n1)) (.val szD) (.val (.int b)) (.val (.int m)) (.val .non) s7 s8)) := set_of (d := .non) (e := lE ns (.val (.int place)) (.own false (potD a1 c n1)) (.val szD) (.val (.int b)) (.val (.int m)) s6 s7 s8) rfl (setE_mine rfl m6)
      obtain ⟨a2, n2, t6, t7, t8, n6, n7, n8, hlp⟩ := loopL_ok (ns := ns) (s1 := .val (.int place)) (s3 := .val szD) hbm (pot1.le (by decide)) m7 m8
      exact ⟨_, .inl (seq_nx b2 (seq_nx (hb3 _ rfl) (seq_nx b4 (seq_nx b6 hlp)))), _, _, _, _, _, t6, t7, t8, rfl, rfl, rfl, rfl, rfl, n6, n7, n8, rfl⟩) ⟨.un, .un, .un, .un, .un, .un, .un, .un, rfl, rfl, rfl, rfl, rfl, rfl, rfl, rfl, rfl⟩
  exact ⟨env', seq_nx (forD_of pl hl) rfl⟩
end Law
namespace Law
open PySem PySem.Spec PyProof.Rows L2 DL
/-- a def of the module, as the top has bound it -/
def DefIn (K : PySem.W.Frag) (x : Str) (st : Stmt) (ps : List Str) : Prop := ∃ (f : Addr) (fd : FuncData), PySem.W.nsIn K mainGlobals x = some (some (.ref f)) ∧ Fun K x x st f fd ∧ Binds K fd ps []
theorem def_mk {K : PySem.W.Frag} {x : Str} {st : Stmt} {ps : List Str} {f : Addr} {oc : Value} {od an : Option Addr} {osl : Array (Option Value)} {kV doc pm cdv ct : Value}
    (hb : ∀ (kV doc pm : Value) (an : Option Addr) (cdv ct : Value) (us : List Value), us.length = ps.length → bindArgs (PySem.W.fnOf x x (defArgs st) (defBody st) (defScope st) .none kV doc pm an cdv ct) ⟨us, []⟩ = pure (ps.zip us))
    (a : PySem.W.nsIn K mainGlobals x = some (some (.ref f))) (l : K.lookup f = some ⟨oc, od, .func (PySem.W.fnOf x x (defArgs st) (defBody st) (defScope st) .none kV doc pm an cdv ct), osl⟩)
    (c : PySem.W.codeIn K cdv x = true) (k : PySem.W.keepIn K (.ref f) = true) : DefIn K x st ps := by
  have F := fun_mk (st := st) l c k
  exact ⟨f, _, a, F, F.binds hb⟩
theorem all_mk {l : PySem.W.OpenLaw} {w : World} {K : PySem.W.Frag} {h : Heap} {mg : Str → Option Value} {fa : Addr} (X : K.In h) (G : h.Ns mainGlobals mg) (hfa : mg "law" = some (.ref fa))
    (d_is_tuple : DefIn K "is_tuple" s_is_tuple ["value", "least", "most"])
    (d_is_whole : DefIn K "is_whole" s_is_whole ["value"])
    (d_is_integer : DefIn K "is_integer" s_is_integer ["value", "low", "high"])
    (d_is_rising : DefIn K "is_rising" s_is_rising ["values"])
    (d_is_state_of : DefIn K "is_state_of" s_is_state_of ["value"])
    (d_is_state : DefIn K "is_state" s_is_state ["value"])
    (d_check_state : DefIn K "check_state" s_check_state ["value"])
    (d_check_most : DefIn K "check_most" s_check_most ["value"])
    (d_check_fitting : DefIn K "check_fitting" s_check_fitting ["state", "most"])
    (d_behind_of : DefIn K "behind_of" s_behind_of ["state", "height"])
    (d_throws_of : DefIn K "throws_of" s_throws_of ["state", "most"])
    (d_all_states : DefIn K "all_states" s_all_states ["many", "most"])
    (d_check_slip : DefIn K "check_slip" s_check_slip ["slip"])
    (d_check_lot : DefIn K "check_lot" s_check_lot ["balls", "most", "slip"])
    (d_slipped : DefIn K "slipped" s_slipped ["state", "height", "most", "slip"])
    (d_options : DefIn K "options" s_options ["state", "most", "slip"])
    (d_can_clash : DefIn K "can_clash" s_can_clash ["found", "behind"])
    (d_clashes_of : DefIn K "clashes_of" s_clashes_of ["balls", "most", "slip"])
    (d_clashes : DefIn K "clashes" s_clashes ["balls", "most", "slip"])
    (d_safe : DefIn K "safe" s_safe ["balls", "most", "slip"])
    (d_safe_throws : DefIn K "safe_throws" s_safe_throws ["state", "most", "slip"])
    (d_is_same : DefIn K "is_same" s_is_same ["value", "state"])
    (d_is_beats : DefIn K "is_beats" s_is_beats ["value"])
    (d_is_row_of : DefIn K "is_row_of" s_is_row_of ["states", "value"])
    (d_is_forced : DefIn K "is_forced" s_is_forced ["known", "number", "behind"])
    (d_shows_clashes : DefIn K "shows_clashes" s_shows_clashes ["balls", "most", "slip", "value"])
    (d_steadied : DefIn K "steadied" s_steadied ["balls", "most", "slip"])
    (d__law_pot : DefIn K "_law_pot" s__law_pot ["script", "place"])
    (d__law_take : DefIn K "_law_take" s__law_take ["pot", "upto"])
    (d__law_of : DefIn K "_law_of" s__law_of ["pot", "some"])
    (d__law_places : DefIn K "_law_places" s__law_places ["script", "most"])
    (d__law_some : DefIn K "_law_some" s__law_some ["pot", "pool", "many"])
    (d__law_behind : DefIn K "_law_behind" s__law_behind ["state", "height"])
    (d__law_can : DefIn K "_law_can" s__law_can ["state", "most"])
    (d__law_states : DefIn K "_law_states" s__law_states ["many", "most"])
    (d__law_choose : DefIn K "_law_choose" s__law_choose ["many", "some"])
    (d__law_game : DefIn K "_law_game" s__law_game ["many", "most", "slip"])
    (d__law_clashes : DefIn K "_law_clashes" s__law_clashes ["game"])
    (d__law_safe_throws : DefIn K "_law_safe_throws" s__law_safe_throws ["game", "lost", "state"])
    (d__law_steadied : DefIn K "_law_steadied" s__law_steadied ["game", "lost", "ground"])
    (d__law_is_told_right : DefIn K "_law_is_told_right" s__law_is_told_right ["game", "value"])
    (d__law_is_slip_right : DefIn K "_law_is_slip_right" s__law_is_slip_right ["pot", "many", "most", "slip"])
    {fl : Addr} {od an : Option Addr} {sl : Array (Option Value)} {oc kV dc pm cd ct : Value}
    (a_law : PySem.W.nsIn K mainGlobals "law" = some (some (.ref fl))) (l_law : K.lookup fl = some ⟨oc, od, .func (PySem.W.fnOf "law" "law" (defArgs s_law) (defBody s_law) (defScope s_law) .none kV dc pm an cd ct), sl⟩) (c_law : PySem.W.codeIn K cd "law" = true) (k_law : PySem.W.keepIn K (.ref fl) = true)
    (z_isinstance : PySem.W.nsIn K mainGlobals "isinstance" = some none)
    (z_len : PySem.W.nsIn K mainGlobals "len" = some none)
    (z_tuple : PySem.W.nsIn K mainGlobals "tuple" = some none)
    (z_bool : PySem.W.nsIn K mainGlobals "bool" = some none)
    (z_int : PySem.W.nsIn K mainGlobals "int" = some none)
    (z_all : PySem.W.nsIn K mainGlobals "all" = some none)
    (z_zip : PySem.W.nsIn K mainGlobals "zip" = some none)
    (z_sorted : PySem.W.nsIn K mainGlobals "sorted" = some none)
    (z_range : PySem.W.nsIn K mainGlobals "range" = some none)
    (z_max : PySem.W.nsIn K mainGlobals "max" = some none)
    (z_min : PySem.W.nsIn K mainGlobals "min" = some none)
    (z_any : PySem.W.nsIn K mainGlobals "any" = some none)
    (z_dict : PySem.W.nsIn K mainGlobals "dict" = some none)
    (z_abs : PySem.W.nsIn K mainGlobals "abs" = some none)
    (z_sum : PySem.W.nsIn K mainGlobals "sum" = some none)
    (z_list : PySem.W.nsIn K mainGlobals "list" = some none)
    (z_repr : PySem.W.nsIn K mainGlobals "repr" = some none)
    {t_MOST_HEIGHT : _} (i_MOST_HEIGHT : PySem.W.nsIn K mainGlobals "MOST_HEIGHT" = some (some (.int 15 t_MOST_HEIGHT)))
    {t_MOST_BALLS : _} (i_MOST_BALLS : PySem.W.nsIn K mainGlobals "MOST_BALLS" = some (some (.int 8 t_MOST_BALLS)))
    {t_MOST_SLIP : _} (i_MOST_SLIP : PySem.W.nsIn K mainGlobals "MOST_SLIP" = some (some (.int 5 t_MOST_SLIP)))
    {t_PAIR : _} (i_PAIR : PySem.W.nsIn K mainGlobals "PAIR" = some (some (.int 2 t_PAIR)))
    : ∃ fd : FuncData, (∀ (s : Shared) (v : Value), BindsTo s fd ⟨[v], []⟩ [("script", v)]) ∧ ∀ base : Heap, K.In base → base.Ns mainGlobals mg → FnG l.prog w K mg base CX0 9 fa fd ["script"] (spD K [false] LAW) := by
  have e := hfa.symm.trans (PySem.W.mg_of X G a_law)
  cases e
  have F_law := fun_mk (st := s_law) l_law c_law k_law
  have m_isinstance := PySem.W.mg_none_of X G z_isinstance
  have m_len := PySem.W.mg_none_of X G z_len
  have m_tuple := PySem.W.mg_none_of X G z_tuple
  have m_bool := PySem.W.mg_none_of X G z_bool
  have m_int := PySem.W.mg_none_of X G z_int
  have m_all := PySem.W.mg_none_of X G z_all
  have m_zip := PySem.W.mg_none_of X G z_zip
  have m_sorted := PySem.W.mg_none_of X G z_sorted
  have m_range := PySem.W.mg_none_of X G z_range
  have m_max := PySem.W.mg_none_of X G z_max
  have m_min := PySem.W.mg_none_of X G z_min
  have m_any := PySem.W.mg_none_of X G z_any
  have m_dict := PySem.W.mg_none_of X G z_dict
  have m_abs := PySem.W.mg_none_of X G z_abs
  have m_sum := PySem.W.mg_none_of X G z_sum
  have m_list := PySem.W.mg_none_of X G z_list
  have m_repr := PySem.W.mg_none_of X G z_repr
  have c_MOST_HEIGHT : ∃ t, mg "MOST_HEIGHT" = some (.int 15 t) := ⟨_, PySem.W.mg_of X G i_MOST_HEIGHT⟩
  have c_MOST_BALLS : ∃ t, mg "MOST_BALLS" = some (.int 8 t) := ⟨_, PySem.W.mg_of X G i_MOST_BALLS⟩
  have c_MOST_SLIP : ∃ t, mg "MOST_SLIP" = some (.int 5 t) := ⟨_, PySem.W.mg_of X G i_MOST_SLIP⟩
  have c_PAIR : ∃ t, mg "PAIR" = some (.int 2 t) := ⟨_, PySem.W.mg_of X G i_PAIR⟩
  obtain ⟨f_is_tuple, g_is_tuple, a_is_tuple, F_is_tuple, b_is_tuple⟩ := d_is_tuple
  obtain ⟨f_is_whole, g_is_whole, a_is_whole, F_is_whole, b_is_whole⟩ := d_is_whole
  obtain ⟨f_is_integer, g_is_integer, a_is_integer, F_is_integer, b_is_integer⟩ := d_is_integer
  obtain ⟨f_is_rising, g_is_rising, a_is_rising, F_is_rising, b_is_rising⟩ := d_is_rising
  obtain ⟨f_is_state_of, g_is_state_of, a_is_state_of, F_is_state_of, b_is_state_of⟩ := d_is_state_of
  obtain ⟨f_is_state, g_is_state, a_is_state, F_is_state, b_is_state⟩ := d_is_state
  obtain ⟨f_check_state, g_check_state, a_check_state, F_check_state, b_check_state⟩ := d_check_state
  obtain ⟨f_check_most, g_check_most, a_check_most, F_check_most, b_check_most⟩ := d_check_most
  obtain ⟨f_check_fitting, g_check_fitting, a_check_fitting, F_check_fitting, b_check_fitting⟩ := d_check_fitting
  obtain ⟨f_behind_of, g_behind_of, a_behind_of, F_behind_of, b_behind_of⟩ := d_behind_of
  obtain ⟨f_throws_of, g_throws_of, a_throws_of, F_throws_of, b_throws_of⟩ := d_throws_of
  obtain ⟨f_all_states, g_all_states, a_all_states, F_all_states, b_all_states⟩ := d_all_states
  obtain ⟨f_check_slip, g_check_slip, a_check_slip, F_check_slip, b_check_slip⟩ := d_check_slip
  obtain ⟨f_check_lot, g_check_lot, a_check_lot, F_check_lot, b_check_lot⟩ := d_check_lot
  obtain ⟨f_slipped, g_slipped, a_slipped, F_slipped, b_slipped⟩ := d_slipped
  obtain ⟨f_options, g_options, a_options, F_options, b_options⟩ := d_options
  obtain ⟨f_can_clash, g_can_clash, a_can_clash, F_can_clash, b_can_clash⟩ := d_can_clash
  obtain ⟨f_clashes_of, g_clashes_of, a_clashes_of, F_clashes_of, b_clashes_of⟩ := d_clashes_of
  obtain ⟨f_clashes, g_clashes, a_clashes, F_clashes, b_clashes⟩ := d_clashes
  obtain ⟨f_safe, g_safe, a_safe, F_safe, b_safe⟩ := d_safe
  obtain ⟨f_safe_throws, g_safe_throws, a_safe_throws, F_safe_throws, b_safe_throws⟩ := d_safe_throws
  obtain ⟨f_is_same, g_is_same, a_is_same, F_is_same, b_is_same⟩ := d_is_same
  obtain ⟨f_is_beats, g_is_beats, a_is_beats, F_is_beats, b_is_beats⟩ := d_is_beats
  obtain ⟨f_is_row_of, g_is_row_of, a_is_row_of, F_is_row_of, b_is_row_of⟩ := d_is_row_of
  obtain ⟨f_is_forced, g_is_forced, a_is_forced, F_is_forced, b_is_forced⟩ := d_is_forced
  obtain ⟨f_shows_clashes, g_shows_clashes, a_shows_clashes, F_shows_clashes, b_shows_clashes⟩ := d_shows_clashes
  obtain ⟨f_steadied, g_steadied, a_steadied, F_steadied, b_steadied⟩ := d_steadied
  obtain ⟨f__law_pot, g__law_pot, a__law_pot, F__law_pot, b__law_pot⟩ := d__law_pot
  obtain ⟨f__law_take, g__law_take, a__law_take, F__law_take, b__law_take⟩ := d__law_take
  obtain ⟨f__law_of, g__law_of, a__law_of, F__law_of, b__law_of⟩ := d__law_of
  obtain ⟨f__law_places, g__law_places, a__law_places, F__law_places, b__law_places⟩ := d__law_places
  obtain ⟨f__law_some, g__law_some, a__law_some, F__law_some, b__law_some⟩ := d__law_some
  obtain ⟨f__law_behind, g__law_behind, a__law_behind, F__law_behind, b__law_behind⟩ := d__law_behind
  obtain ⟨f__law_can, g__law_can, a__law_can, F__law_can, b__law_can⟩ := d__law_can
  obtain ⟨f__law_states, g__law_states, a__law_states, F__law_states, b__law_states⟩ := d__law_states
  obtain ⟨f__law_choose, g__law_choose, a__law_choose, F__law_choose, b__law_choose⟩ := d__law_choose
  obtain ⟨f__law_game, g__law_game, a__law_game, F__law_game, b__law_game⟩ := d__law_game
  obtain ⟨f__law_clashes, g__law_clashes, a__law_clashes, F__law_clashes, b__law_clashes⟩ := d__law_clashes
  obtain ⟨f__law_safe_throws, g__law_safe_throws, a__law_safe_throws, F__law_safe_throws, b__law_safe_throws⟩ := d__law_safe_throws
  obtain ⟨f__law_steadied, g__law_steadied, a__law_steadied, F__law_steadied, b__law_steadied⟩ := d__law_steadied
  obtain ⟨f__law_is_told_right, g__law_is_told_right, a__law_is_told_right, F__law_is_told_right, b__law_is_told_right⟩ := d__law_is_told_right
  obtain ⟨f__law_is_slip_right, g__law_is_slip_right, a__law_is_slip_right, F__law_is_slip_right, b__law_is_slip_right⟩ := d__law_is_slip_right
  refine ⟨PySem.W.fnOf "law" "law" (defArgs s_law) (defBody s_law) (defScope s_law) .none kV dc pm an cd ct, fun s v => .of_eq rfl, fun base _ _ => ?_⟩
  have R_is_tuple : Has l.prog w K mg base 1 "is_tuple" ["value", "least", "most"] [false, false, false] N_is_tuple f_is_tuple g_is_tuple := ⟨w_is_tuple F_is_tuple m_isinstance m_len m_tuple, b_is_tuple, PySem.W.mg_of X G a_is_tuple, F_is_tuple.kp⟩
  have H_is_tuple : Has l.prog w K mg base 1 "is_tuple" ["value", "least", "most"] [false, false, false] S_is_tuple f_is_tuple g_is_tuple := ⟨(w_is_tuple F_is_tuple m_isinstance m_len m_tuple).to (by decide) to_is_tuple, b_is_tuple, PySem.W.mg_of X G a_is_tuple, F_is_tuple.kp⟩
  have H_is_whole : Has l.prog w K mg base 1 "is_whole" ["value"] [false] N_is_whole f_is_whole g_is_whole := ⟨w_is_whole F_is_whole m_bool m_int m_isinstance, b_is_whole, PySem.W.mg_of X G a_is_whole, F_is_whole.kp⟩
  have H_is_integer : Has l.prog w K mg base 2 "is_integer" ["value", "low", "high"] [false, false, false] N_is_integer f_is_integer g_is_integer := ⟨w_is_integer F_is_integer H_is_whole, b_is_integer, PySem.W.mg_of X G a_is_integer, F_is_integer.kp⟩
  have H_is_rising : Has l.prog w K mg base 1 "is_rising" ["values"] [false] N_is_rising f_is_rising g_is_rising := ⟨w_is_rising F_is_rising m_all m_zip, b_is_rising, PySem.W.mg_of X G a_is_rising, F_is_rising.kp⟩
  have H_is_state_of : Has l.prog w K mg base 3 "is_state_of" ["value"] [false] N_is_state_of f_is_state_of g_is_state_of := ⟨w_is_state_of F_is_state_of H_is_integer H_is_rising m_all m_isinstance m_tuple c_MOST_HEIGHT, b_is_state_of, PySem.W.mg_of X G a_is_state_of, F_is_state_of.kp⟩
  have H_is_state : Has l.prog w K mg base 4 "is_state" ["value"] [false] N_is_state f_is_state g_is_state := ⟨w_is_state F_is_state H_is_state_of m_len c_MOST_BALLS, b_is_state, PySem.W.mg_of X G a_is_state, F_is_state.kp⟩
  have H_check_state : Has l.prog w K mg base 5 "check_state" ["value"] [false] N_check_state f_check_state g_check_state := ⟨w_check_state F_check_state H_is_state, b_check_state, PySem.W.mg_of X G a_check_state, F_check_state.kp⟩
  have H_check_most : Has l.prog w K mg base 3 "check_most" ["value"] [false] N_check_most f_check_most g_check_most := ⟨w_check_most F_check_most H_is_integer c_MOST_HEIGHT, b_check_most, PySem.W.mg_of X G a_check_most, F_check_most.kp⟩
  have H_check_fitting : Has l.prog w K mg base 6 "check_fitting" ["state", "most"] [false, false] S_check_fitting f_check_fitting g_check_fitting := ⟨(w_check_fitting F_check_fitting H_check_most H_check_state).to (by decide) to_check_fitting, b_check_fitting, PySem.W.mg_of X G a_check_fitting, F_check_fitting.kp⟩
  have H_behind_of : Has l.prog w K mg base 1 "behind_of" ["state", "height"] [false, false] S_behind_of f_behind_of g_behind_of := ⟨(w_behind_of F_behind_of m_sorted m_tuple).to (by decide) to_behind_of, b_behind_of, PySem.W.mg_of X G a_behind_of, F_behind_of.kp⟩
  have H_throws_of : Has l.prog w K mg base 1 "throws_of" ["state", "most"] [false, false] S_throws_of f_throws_of g_throws_of := ⟨(w_throws_of F_throws_of m_range).to (by decide) to_throws_of, b_throws_of, PySem.W.mg_of X G a_throws_of, F_throws_of.kp⟩
  have H_all_states : Has l.prog w K mg base 1 "all_states" ["many", "most"] [false, false] S_all_states f_all_states g_all_states := ⟨(w_all_states F_all_states m_len m_range m_sorted).to (by decide) to_all_states, b_all_states, PySem.W.mg_of X G a_all_states, F_all_states.kp⟩
  have R_check_slip : Has l.prog w K mg base 3 "check_slip" ["slip"] [false] N_check_slip f_check_slip g_check_slip := ⟨w_check_slip F_check_slip H_is_integer c_MOST_SLIP, b_check_slip, PySem.W.mg_of X G a_check_slip, F_check_slip.kp⟩
  have H_check_slip : Has l.prog w K mg base 3 "check_slip" ["slip"] [false] S_check_slip f_check_slip g_check_slip := ⟨(w_check_slip F_check_slip H_is_integer c_MOST_SLIP).to (by decide) to_check_slip, b_check_slip, PySem.W.mg_of X G a_check_slip, F_check_slip.kp⟩
  have H_check_lot : Has l.prog w K mg base 4 "check_lot" ["balls", "most", "slip"] [false, false, false] S_check_lot f_check_lot g_check_lot := ⟨(w_check_lot F_check_lot H_check_most R_check_slip H_is_integer c_MOST_BALLS).to (by decide) to_check_lot, b_check_lot, PySem.W.mg_of X G a_check_lot, F_check_lot.kp⟩
  have H_slipped : Has l.prog w K mg base 2 "slipped" ["state", "height", "most", "slip"] [false, false, false, false] S_slipped f_slipped g_slipped := ⟨(w_slipped F_slipped H_behind_of m_max m_min m_range).to (by decide) to_slipped, b_slipped, PySem.W.mg_of X G a_slipped, F_slipped.kp⟩
  have H_options : Has l.prog w K mg base 3 "options" ["state", "most", "slip"] [false, false, false] S_options f_options g_options := ⟨(w_options F_options H_slipped H_throws_of).to (by decide) to_options, b_options, PySem.W.mg_of X G a_options, F_options.kp⟩
  have H_can_clash : Has l.prog w K mg base 1 "can_clash" ["found", "behind"] [false, false] S_can_clash f_can_clash g_can_clash := ⟨(w_can_clash F_can_clash m_any).to (by decide) to_can_clash, b_can_clash, PySem.W.mg_of X G a_can_clash, F_can_clash.kp⟩
  have H_clashes_of : Has l.prog w K mg base 4 "clashes_of" ["balls", "most", "slip"] [false, false, false] S_clashes_of f_clashes_of g_clashes_of := ⟨(w_clashes_of F_clashes_of H_all_states H_can_clash l_can_clash H_options m_all).to (by decide) to_clashes_of, b_clashes_of, PySem.W.mg_of X G a_clashes_of, F_clashes_of.kp⟩
  have H_clashes : Has l.prog w K mg base 5 "clashes" ["balls", "most", "slip"] [false, false, false] S_clashes f_clashes g_clashes := ⟨(w_clashes F_clashes H_check_lot H_clashes_of m_sorted m_tuple).to (by decide) to_clashes, b_clashes, PySem.W.mg_of X G a_clashes, F_clashes.kp⟩
  have H_safe : Has l.prog w K mg base 5 "safe" ["balls", "most", "slip"] [false, false, false] S_safe f_safe g_safe := ⟨(w_safe F_safe H_check_lot H_clashes_of m_sorted m_tuple).to (by decide) to_safe, b_safe, PySem.W.mg_of X G a_safe, F_safe.kp⟩
  have H_safe_throws : Has l.prog w K mg base 7 "safe_throws" ["state", "most", "slip"] [false, false, false] S_safe_throws f_safe_throws g_safe_throws := ⟨(w_safe_throws F_safe_throws H_can_clash H_check_fitting H_check_slip H_clashes_of H_slipped H_throws_of m_len m_tuple).to (by decide) to_safe_throws, b_safe_throws, PySem.W.mg_of X G a_safe_throws, F_safe_throws.kp⟩
  have H_is_same : Has l.prog w K mg base 3 "is_same" ["value", "state"] [false, false] S_is_same f_is_same g_is_same := ⟨(w_is_same F_is_same H_is_integer R_is_tuple m_all m_len m_zip).to (by decide) to_is_same, b_is_same, PySem.W.mg_of X G a_is_same, F_is_same.kp⟩
  have H_is_beats : Has l.prog w K mg base 1 "is_beats" ["value"] [false] S_is_beats f_is_beats g_is_beats := ⟨(w_is_beats F_is_beats m_bool m_int m_isinstance).to (by decide) to_is_beats, b_is_beats, PySem.W.mg_of X G a_is_beats, F_is_beats.kp⟩
  have H_is_row_of : Has l.prog w K mg base 4 "is_row_of" ["states", "value"] [false, false] S_is_row_of f_is_row_of g_is_row_of := ⟨(w_is_row_of F_is_row_of H_is_beats H_is_same H_is_tuple m_all m_len m_zip c_PAIR).to (by decide) to_is_row_of, b_is_row_of, PySem.W.mg_of X G a_is_row_of, F_is_row_of.kp⟩
  have H_is_forced : Has l.prog w K mg base 1 "is_forced" ["known", "number", "behind"] [false, false, false] S_is_forced f_is_forced g_is_forced := ⟨(w_is_forced F_is_forced m_any).to (by decide) to_is_forced, b_is_forced, PySem.W.mg_of X G a_is_forced, F_is_forced.kp⟩
  have H_shows_clashes : Has l.prog w K mg base 5 "shows_clashes" ["balls", "most", "slip", "value"] [false, false, false, false] S_shows_clashes f_shows_clashes g_shows_clashes := ⟨(w_shows_clashes F_shows_clashes H_all_states H_can_clash H_check_lot H_is_forced H_is_row_of H_options m_all m_dict).to (by decide) to_shows_clashes, b_shows_clashes, PySem.W.mg_of X G a_shows_clashes, F_shows_clashes.kp⟩
  have H_steadied : Has l.prog w K mg base 5 "steadied" ["balls", "most", "slip"] [false, false, false] S_steadied f_steadied g_steadied := ⟨(w_steadied F_steadied H_can_clash H_check_lot H_clashes_of H_options m_all m_any m_range m_sorted m_tuple).to (by decide) to_steadied, b_steadied, PySem.W.mg_of X G a_steadied, F_steadied.kp⟩
  have H__law_pot : Has l.prog w K mg base 1 "_law_pot" ["script", "place"] [false, false] N__law_pot f__law_pot g__law_pot := ⟨w__law_pot F__law_pot m_abs m_int m_len m_sum, b__law_pot, PySem.W.mg_of X G a__law_pot, F__law_pot.kp⟩
  have H__law_take : Has l.prog w K mg base 1 "_law_take" ["pot", "upto"] [true, false] N__law_take f__law_take g__law_take := ⟨w__law_take F__law_take m_int, b__law_take, PySem.W.mg_of X G a__law_take, F__law_take.kp⟩
  have H__law_of : Has l.prog w K mg base 2 "_law_of" ["pot", "some"] [true, false] N__law_of f__law_of g__law_of := ⟨w__law_of F__law_of H__law_take m_len, b__law_of, PySem.W.mg_of X G a__law_of, F__law_of.kp⟩
  have H__law_places : Has l.prog w K mg base 1 "_law_places" ["script", "most"] [false, false] N__law_places f__law_places g__law_places := ⟨w__law_places F__law_places m_len m_list m_max m_min m_range, b__law_places, PySem.W.mg_of X G a__law_places, F__law_places.kp⟩
  have H__law_some : Has l.prog w K mg base 2 "_law_some" ["pot", "pool", "many"] [true, false, false] N__law_some f__law_some g__law_some := ⟨w__law_some F__law_some H__law_take m_len m_list m_range, b__law_some, PySem.W.mg_of X G a__law_some, F__law_some.kp⟩
  have H__law_behind : Has l.prog w K mg base 1 "_law_behind" ["state", "height"] [false, false] N__law_behind f__law_behind g__law_behind := ⟨w__law_behind F__law_behind m_sorted m_tuple, b__law_behind, PySem.W.mg_of X G a__law_behind, F__law_behind.kp⟩
  have H__law_can : Has l.prog w K mg base 2 "_law_can" ["state", "most"] [false, false] N__law_can f__law_can g__law_can := ⟨w__law_can F__law_can H__law_behind m_range, b__law_can, PySem.W.mg_of X G a__law_can, F__law_can.kp⟩
  have H__law_states : Has l.prog w K mg base 1 "_law_states" ["many", "most"] [false, false] N__law_states f__law_states g__law_states := ⟨w__law_states F__law_states m_range, b__law_states, PySem.W.mg_of X G a__law_states, F__law_states.kp⟩
  have H__law_choose : Has l.prog w K mg base 1 "_law_choose" ["many", "some"] [false, false] N__law_choose f__law_choose g__law_choose := ⟨w__law_choose F__law_choose m_range, b__law_choose, PySem.W.mg_of X G a__law_choose, F__law_choose.kp⟩
  have H__law_game : Has l.prog w K mg base 3 "_law_game" ["many", "most", "slip"] [false, false, false] N__law_game f__law_game g__law_game := ⟨w__law_game F__law_game H__law_can H__law_states m_list m_max m_min m_range m_sorted m_tuple, b__law_game, PySem.W.mg_of X G a__law_game, F__law_game.kp⟩
  have H__law_clashes : Has l.prog w K mg base 1 "_law_clashes" ["game"] [false] N__law_clashes f__law_clashes g__law_clashes := ⟨w__law_clashes F__law_clashes m_all m_any, b__law_clashes, PySem.W.mg_of X G a__law_clashes, F__law_clashes.kp⟩
  have H__law_safe_throws : Has l.prog w K mg base 1 "_law_safe_throws" ["game", "lost", "state"] [false, false, false] N__law_safe_throws f__law_safe_throws g__law_safe_throws := ⟨w__law_safe_throws F__law_safe_throws m_any, b__law_safe_throws, PySem.W.mg_of X G a__law_safe_throws, F__law_safe_throws.kp⟩
  have H__law_steadied : Has l.prog w K mg base 1 "_law_steadied" ["game", "lost", "ground"] [false, false, false] N__law_steadied f__law_steadied g__law_steadied := ⟨w__law_steadied F__law_steadied m_all, b__law_steadied, PySem.W.mg_of X G a__law_steadied, F__law_steadied.kp⟩
  have H__law_is_told_right : Has l.prog w K mg base 1 "_law_is_told_right" ["game", "value"] [false, false] N__law_is_told_right f__law_is_told_right g__law_is_told_right := ⟨w__law_is_told_right F__law_is_told_right m_all m_any m_dict m_list, b__law_is_told_right, PySem.W.mg_of X G a__law_is_told_right, F__law_is_told_right.kp⟩
  have H__law_is_slip_right : Has l.prog w K mg base 8 "_law_is_slip_right" ["pot", "many", "most", "slip"] [true, false, false, false] SLIP f__law_is_slip_right g__law_is_slip_right := ⟨w__law_is_slip_right F__law_is_slip_right H__law_clashes H__law_game H__law_is_told_right H__law_safe_throws H__law_some H__law_steadied H__law_take H_clashes H_safe H_safe_throws H_shows_clashes H_steadied m_int m_len m_min m_range m_repr m_sorted m_tuple, b__law_is_slip_right, PySem.W.mg_of X G a__law_is_slip_right, F__law_is_slip_right.kp⟩
  exact w_law F_law H__law_choose H__law_is_slip_right H__law_of H__law_places H__law_pot H__law_take m_all m_int m_len
end Law
open PySem PySem.W PyProof.Rows
set_option maxHeartbeats 0 in
theorem PySem.Challenge.cw_nothingfalls_k07_whole_slips_up_to_five_holds : PySem.Challenge.rw_nothingfalls_k07_whole_slips_up_to_five.Holds := by
  w_on; o_law; k_head; (case hw => w_witness2)
  k_fill
  refine DL.walk_D (l := PySem.Challenge.rw_nothingfalls_k07_whole_slips_up_to_five) (n := 63) (k := 9) (x := "script") (fn := Law.LAW) rfl (by decide) rfl ⟨rfl, by decide, by decide⟩ (fun w h Y => PySem.W.kIn_of Y) ?F (fun ns hl _ => Law.law_true ns (Nat.le_trans hl (by decide)))
  case F =>
    intro w mg fa h KX G hmg
    refine' Law.all_mk KX G hmg ?d_is_tuple ?d_is_whole ?d_is_integer ?d_is_rising ?d_is_state_of ?d_is_state ?d_check_state ?d_check_most ?d_check_fitting ?d_behind_of ?d_throws_of ?d_all_states ?d_check_slip ?d_check_lot ?d_slipped ?d_options ?d_can_clash ?d_clashes_of ?d_clashes ?d_safe ?d_safe_throws ?d_is_same ?d_is_beats ?d_is_row_of ?d_is_forced ?d_shows_clashes ?d_steadied ?d__law_pot ?d__law_take ?d__law_of ?d__law_places ?d__law_some ?d__law_behind ?d__law_can ?d__law_states ?d__law_choose ?d__law_game ?d__law_clashes ?d__law_safe_throws ?d__law_steadied ?d__law_is_told_right ?d__law_is_slip_right ?a_law ?l_law ?c_law ?k_law ?z_isinstance ?z_len ?z_tuple ?z_bool ?z_int ?z_all ?z_zip ?z_sorted ?z_range ?z_max ?z_min ?z_any ?z_dict ?z_abs ?z_sum ?z_list ?z_repr ?i_MOST_HEIGHT ?i_MOST_BALLS ?i_MOST_SLIP ?i_PAIR
    (case d_is_tuple => (refine' Law.def_mk (fun _ _ _ _ _ _ us hl => match us, hl with | [_, _, _], _ => rfl) ?a ?l ?c ?k); (case a => k_is); (case l => k_is); (case c => k_is); (case k => k_is))
    (case d_is_whole => (refine' Law.def_mk (fun _ _ _ _ _ _ us hl => match us, hl with | [_], _ => rfl) ?a ?l ?c ?k); (case a => k_is); (case l => k_is); (case c => k_is); (case k => k_is))
    (case d_is_integer => (refine' Law.def_mk (fun _ _ _ _ _ _ us hl => match us, hl with | [_, _, _], _ => rfl) ?a ?l ?c ?k); (case a => k_is); (case l => k_is); (case c => k_is); (case k => k_is))
    (case d_is_rising => (refine' Law.def_mk (fun _ _ _ _ _ _ us hl => match us, hl with | [_], _ => rfl) ?a ?l ?c ?k); (case a => k_is); (case l => k_is); (case c => k_is); (case k => k_is))
    (case d_is_state_of => (refine' Law.def_mk (fun _ _ _ _ _ _ us hl => match us, hl with | [_], _ => rfl) ?a ?l ?c ?k); (case a => k_is); (case l => k_is); (case c => k_is); (case k => k_is))
    (case d_is_state => (refine' Law.def_mk (fun _ _ _ _ _ _ us hl => match us, hl with | [_], _ => rfl) ?a ?l ?c ?k); (case a => k_is); (case l => k_is); (case c => k_is); (case k => k_is))
    (case d_check_state => (refine' Law.def_mk (fun _ _ _ _ _ _ us hl => match us, hl with | [_], _ => rfl) ?a ?l ?c ?k); (case a => k_is); (case l => k_is); (case c => k_is); (case k => k_is))
    (case d_check_most => (refine' Law.def_mk (fun _ _ _ _ _ _ us hl => match us, hl with | [_], _ => rfl) ?a ?l ?c ?k); (case a => k_is); (case l => k_is); (case c => k_is); (case k => k_is))
    (case d_check_fitting => (refine' Law.def_mk (fun _ _ _ _ _ _ us hl => match us, hl with | [_, _], _ => rfl) ?a ?l ?c ?k); (case a => k_is); (case l => k_is); (case c => k_is); (case k => k_is))
    (case d_behind_of => (refine' Law.def_mk (fun _ _ _ _ _ _ us hl => match us, hl with | [_, _], _ => rfl) ?a ?l ?c ?k); (case a => k_is); (case l => k_is); (case c => k_is); (case k => k_is))
    (case d_throws_of => (refine' Law.def_mk (fun _ _ _ _ _ _ us hl => match us, hl with | [_, _], _ => rfl) ?a ?l ?c ?k); (case a => k_is); (case l => k_is); (case c => k_is); (case k => k_is))
    (case d_all_states => (refine' Law.def_mk (fun _ _ _ _ _ _ us hl => match us, hl with | [_, _], _ => rfl) ?a ?l ?c ?k); (case a => k_is); (case l => k_is); (case c => k_is); (case k => k_is))
    (case d_check_slip => (refine' Law.def_mk (fun _ _ _ _ _ _ us hl => match us, hl with | [_], _ => rfl) ?a ?l ?c ?k); (case a => k_is); (case l => k_is); (case c => k_is); (case k => k_is))
    (case d_check_lot => (refine' Law.def_mk (fun _ _ _ _ _ _ us hl => match us, hl with | [_, _, _], _ => rfl) ?a ?l ?c ?k); (case a => k_is); (case l => k_is); (case c => k_is); (case k => k_is))
    (case d_slipped => (refine' Law.def_mk (fun _ _ _ _ _ _ us hl => match us, hl with | [_, _, _, _], _ => rfl) ?a ?l ?c ?k); (case a => k_is); (case l => k_is); (case c => k_is); (case k => k_is))
    (case d_options => (refine' Law.def_mk (fun _ _ _ _ _ _ us hl => match us, hl with | [_, _, _], _ => rfl) ?a ?l ?c ?k); (case a => k_is); (case l => k_is); (case c => k_is); (case k => k_is))
    (case d_can_clash => (refine' Law.def_mk (fun _ _ _ _ _ _ us hl => match us, hl with | [_, _], _ => rfl) ?a ?l ?c ?k); (case a => k_is); (case l => k_is); (case c => k_is); (case k => k_is))
    (case d_clashes_of => (refine' Law.def_mk (fun _ _ _ _ _ _ us hl => match us, hl with | [_, _, _], _ => rfl) ?a ?l ?c ?k); (case a => k_is); (case l => k_is); (case c => k_is); (case k => k_is))
    (case d_clashes => (refine' Law.def_mk (fun _ _ _ _ _ _ us hl => match us, hl with | [_, _, _], _ => rfl) ?a ?l ?c ?k); (case a => k_is); (case l => k_is); (case c => k_is); (case k => k_is))
    (case d_safe => (refine' Law.def_mk (fun _ _ _ _ _ _ us hl => match us, hl with | [_, _, _], _ => rfl) ?a ?l ?c ?k); (case a => k_is); (case l => k_is); (case c => k_is); (case k => k_is))
    (case d_safe_throws => (refine' Law.def_mk (fun _ _ _ _ _ _ us hl => match us, hl with | [_, _, _], _ => rfl) ?a ?l ?c ?k); (case a => k_is); (case l => k_is); (case c => k_is); (case k => k_is))
    (case d_is_same => (refine' Law.def_mk (fun _ _ _ _ _ _ us hl => match us, hl with | [_, _], _ => rfl) ?a ?l ?c ?k); (case a => k_is); (case l => k_is); (case c => k_is); (case k => k_is))
    (case d_is_beats => (refine' Law.def_mk (fun _ _ _ _ _ _ us hl => match us, hl with | [_], _ => rfl) ?a ?l ?c ?k); (case a => k_is); (case l => k_is); (case c => k_is); (case k => k_is))
    (case d_is_row_of => (refine' Law.def_mk (fun _ _ _ _ _ _ us hl => match us, hl with | [_, _], _ => rfl) ?a ?l ?c ?k); (case a => k_is); (case l => k_is); (case c => k_is); (case k => k_is))
    (case d_is_forced => (refine' Law.def_mk (fun _ _ _ _ _ _ us hl => match us, hl with | [_, _, _], _ => rfl) ?a ?l ?c ?k); (case a => k_is); (case l => k_is); (case c => k_is); (case k => k_is))
    (case d_shows_clashes => (refine' Law.def_mk (fun _ _ _ _ _ _ us hl => match us, hl with | [_, _, _, _], _ => rfl) ?a ?l ?c ?k); (case a => k_is); (case l => k_is); (case c => k_is); (case k => k_is))
    (case d_steadied => (refine' Law.def_mk (fun _ _ _ _ _ _ us hl => match us, hl with | [_, _, _], _ => rfl) ?a ?l ?c ?k); (case a => k_is); (case l => k_is); (case c => k_is); (case k => k_is))
    (case d__law_pot => (refine' Law.def_mk (fun _ _ _ _ _ _ us hl => match us, hl with | [_, _], _ => rfl) ?a ?l ?c ?k); (case a => k_is); (case l => k_is); (case c => k_is); (case k => k_is))
    (case d__law_take => (refine' Law.def_mk (fun _ _ _ _ _ _ us hl => match us, hl with | [_, _], _ => rfl) ?a ?l ?c ?k); (case a => k_is); (case l => k_is); (case c => k_is); (case k => k_is))
    (case d__law_of => (refine' Law.def_mk (fun _ _ _ _ _ _ us hl => match us, hl with | [_, _], _ => rfl) ?a ?l ?c ?k); (case a => k_is); (case l => k_is); (case c => k_is); (case k => k_is))
    (case d__law_places => (refine' Law.def_mk (fun _ _ _ _ _ _ us hl => match us, hl with | [_, _], _ => rfl) ?a ?l ?c ?k); (case a => k_is); (case l => k_is); (case c => k_is); (case k => k_is))
    (case d__law_some => (refine' Law.def_mk (fun _ _ _ _ _ _ us hl => match us, hl with | [_, _, _], _ => rfl) ?a ?l ?c ?k); (case a => k_is); (case l => k_is); (case c => k_is); (case k => k_is))
    (case d__law_behind => (refine' Law.def_mk (fun _ _ _ _ _ _ us hl => match us, hl with | [_, _], _ => rfl) ?a ?l ?c ?k); (case a => k_is); (case l => k_is); (case c => k_is); (case k => k_is))
    (case d__law_can => (refine' Law.def_mk (fun _ _ _ _ _ _ us hl => match us, hl with | [_, _], _ => rfl) ?a ?l ?c ?k); (case a => k_is); (case l => k_is); (case c => k_is); (case k => k_is))
    (case d__law_states => (refine' Law.def_mk (fun _ _ _ _ _ _ us hl => match us, hl with | [_, _], _ => rfl) ?a ?l ?c ?k); (case a => k_is); (case l => k_is); (case c => k_is); (case k => k_is))
    (case d__law_choose => (refine' Law.def_mk (fun _ _ _ _ _ _ us hl => match us, hl with | [_, _], _ => rfl) ?a ?l ?c ?k); (case a => k_is); (case l => k_is); (case c => k_is); (case k => k_is))
    (case d__law_game => (refine' Law.def_mk (fun _ _ _ _ _ _ us hl => match us, hl with | [_, _, _], _ => rfl) ?a ?l ?c ?k); (case a => k_is); (case l => k_is); (case c => k_is); (case k => k_is))
    (case d__law_clashes => (refine' Law.def_mk (fun _ _ _ _ _ _ us hl => match us, hl with | [_], _ => rfl) ?a ?l ?c ?k); (case a => k_is); (case l => k_is); (case c => k_is); (case k => k_is))
    (case d__law_safe_throws => (refine' Law.def_mk (fun _ _ _ _ _ _ us hl => match us, hl with | [_, _, _], _ => rfl) ?a ?l ?c ?k); (case a => k_is); (case l => k_is); (case c => k_is); (case k => k_is))
    (case d__law_steadied => (refine' Law.def_mk (fun _ _ _ _ _ _ us hl => match us, hl with | [_, _, _], _ => rfl) ?a ?l ?c ?k); (case a => k_is); (case l => k_is); (case c => k_is); (case k => k_is))
    (case d__law_is_told_right => (refine' Law.def_mk (fun _ _ _ _ _ _ us hl => match us, hl with | [_, _], _ => rfl) ?a ?l ?c ?k); (case a => k_is); (case l => k_is); (case c => k_is); (case k => k_is))
    (case d__law_is_slip_right => (refine' Law.def_mk (fun _ _ _ _ _ _ us hl => match us, hl with | [_, _, _, _], _ => rfl) ?a ?l ?c ?k); (case a => k_is); (case l => k_is); (case c => k_is); (case k => k_is))
    (case a_law => k_is)
    (case l_law => k_is)
    (case c_law => k_is)
    (case k_law => k_is)
    (case z_isinstance => k_is)
    (case z_len => k_is)
    (case z_tuple => k_is)
    (case z_bool => k_is)
    (case z_int => k_is)
    (case z_all => k_is)
    (case z_zip => k_is)
    (case z_sorted => k_is)
    (case z_range => k_is)
    (case z_max => k_is)
    (case z_min => k_is)
    (case z_any => k_is)
    (case z_dict => k_is)
    (case z_abs => k_is)
    (case z_sum => k_is)
    (case z_list => k_is)
    (case z_repr => k_is)
    (case i_MOST_HEIGHT => k_is)
    (case i_MOST_BALLS => k_is)
    (case i_MOST_SLIP => k_is)
    (case i_PAIR => k_is)
