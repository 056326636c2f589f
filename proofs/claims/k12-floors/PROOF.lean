import PyProof.Rows.All
import HandS.ForMost
import HandS.Wide
import HandS.IsInst
import HandS.Star
import HandS.Walk
import HandS.TupAny
import HandS.Zip
import HandS.Rev
import HandS.NoneIn
import HandS.Style
import KE.GoesMore
import PySem.Challenge.RW_trueroom_k12_whole_floors_counted_from_b
set_option Elab.async false
set_option linter.all false
set_option maxRecDepth 100000
set_option maxHeartbeats 2000000
/-! The abstract layer: pure data (PyData) and numbered mutable lists over the hand layer's heaps. -/
namespace Abs
open PySem PySem.Spec PyProof.Rows L2

abbrev D := PyData
abbrev MS := List (List D)

/-! ### values that are data -/
def KTup (K : PySem.W.Frag) (a : Addr) (xs : List V) : Prop :=
  ∃ (o : Obj) (its : Array Value) (n : Nat), K.lookup a = some o ∧ o.cls = .type "tuple" ∧ o.data = .seq its n ∧ its.size ≤ sizeLine ∧ Vals xs its.toList
def KLst (K : PySem.W.Frag) (a : Addr) (xs : List V) : Prop :=
  ∃ (o : Obj) (its : Array Value) (n : Nat), K.lookup a = some o ∧ o.cls = .type "list" ∧ o.dict = none ∧ o.data = .seq its n ∧ its.size ≤ sizeLine ∧ Vals xs its.toList
def ScrAt (K : PySem.W.Frag) (as : List Addr) (H : Hp) (a : Addr) (xs : List V) : Prop := (a ∉ as ∧ Rd H a (.lst xs)) ∨ KLst K a xs
def TupAt (K : PySem.W.Frag) (as : List Addr) (H : Hp) (a : Addr) (xs : List V) : Prop := (a ∉ as ∧ Rd H a (.tup xs)) ∨ KTup K a xs
mutual
def R (K : PySem.W.Frag) (as : List Addr) (H : Hp) : V → D → Prop
  | v, .none => v = .non
  | v, .bool b => v = .bl b
  | v, .int i => v = .int i
  | v, .str x => v = .str x
  | v, .list ds => ∃ a xs, v = .ref a ∧ a ∉ as ∧ H a = some (.lst xs) ∧ RA K as H xs ds
  | v, .tuple ds => ∃ a xs, v = .ref a ∧ TupAt K as H a xs ∧ RA K as H xs ds
  | _, .dict _ => False
def RA (K : PySem.W.Frag) (as : List Addr) (H : Hp) : List V → List D → Prop
  | vs, [] => vs = []
  | vs, d :: ds => ∃ v r, vs = v :: r ∧ R K as H v d ∧ RA K as H r ds
end
/-- all but what stands at as is kept -/
def Kq (as : List Addr) (H H' : Hp) : Prop := ∀ b o, b ∉ as → H b = some o → H' b = some o
theorem Kq.refl {as : List Addr} {H : Hp} : Kq as H H := fun _ _ _ h => h
theorem Kq.trans {as : List Addr} {H H1 H2 : Hp} (a : Kq as H H1) (b : Kq as H1 H2) : Kq as H H2 := fun x o n h => b x o n (a x o n h)
theorem Kq.new {as : List Addr} {H : Hp} {p : Addr} {o : HO} (h : H p = none) : Kq as H (upd H p o) := fun a u _ e => by
  rw [upd_ne (ne_of_none e h)]; exact e
theorem Kq.mut {as : List Addr} {H : Hp} {p : Addr} {o : HO} (h : p ∈ as) : Kq as H (upd H p o) := fun a u n e => by
  rw [upd_ne (fun (z : a = p) => n (by rw [z]; exact h))]; exact e
theorem Kq.sub {as bs : List Addr} {H H' : Hp} (k : Kq as H H') (s : ∀ a ∈ as, a ∈ bs) : Kq bs H H' := fun b o n e => k b o (fun z => n (s b z)) e
theorem SqT.sp {K : PySem.W.Frag} {as : List Addr} {H : Hp} {a : Addr} {xs : List V} (h : TupAt K as H a xs) : SqT K H a xs := h.imp And.right id
theorem TupAt.of {K : PySem.W.Frag} {as : List Addr} {H : Hp} {a : Addr} {xs : List V} (n : a ∉ as) (h : H a = some (.tup xs)) : TupAt K as H a xs := .inl ⟨n, .inl h⟩

section
variable {K : PySem.W.Frag} {as bs : List Addr} {H H' : Hp}
theorem Rd.kq {a : Addr} {u : HO} (k : Kq as H H') (n : a ∉ as) (h : Rd H a u) : Rd H' a u := by
  rcases h with h | ⟨o, h⟩
  · exact .inl (k a _ n h)
  · exact .inr ⟨o, k a _ n h⟩
/-- the same value under another guard and a larger heap -/
theorem TupAt.chg {a : Addr} {xs : List V} (k : Kq as H H') (s : ∀ q ∈ bs, q ∈ as ∨ H q = none) (h : TupAt K as H a xs) : TupAt K bs H' a xs := by
  rcases h with ⟨n, h⟩ | h
  · refine .inl ⟨fun hb => ?_, Rd.kq k n h⟩
    rcases s a hb with z | z
    · exact n z
    · rcases h with h | ⟨o, h⟩ <;> (rw [z] at h; cases h)
  · exact .inr h
theorem ScrAt.chg {a : Addr} {xs : List V} (k : Kq as H H') (s : ∀ q ∈ bs, q ∈ as ∨ H q = none) (h : ScrAt K as H a xs) : ScrAt K bs H' a xs := by
  rcases h with ⟨n, h⟩ | h
  · refine .inl ⟨fun hb => ?_, Rd.kq k n h⟩
    rcases s a hb with z | z
    · exact n z
    · rcases h with h | ⟨o, h⟩ <;> (rw [z] at h; cases h)
  · exact .inr h
theorem ScrAt.sq {a : Addr} {xs : List V} (h : ScrAt K as H a xs) : SqL K H a xs := h.imp And.right id
mutual
theorem R.chg (k : Kq as H H') (s : ∀ q ∈ bs, q ∈ as ∨ H q = none) : ∀ (d : D) (v : V), R K as H v d → R K bs H' v d
  | .none, _, h => by unfold R at h ⊢; exact h
  | .bool _, _, h => by unfold R at h ⊢; exact h
  | .int _, _, h => by unfold R at h ⊢; exact h
  | .str _, _, h => by unfold R at h ⊢; exact h
  | .list ds, v, h => by
    unfold R at h ⊢
    obtain ⟨a, xs, e, n, hx, q⟩ := h
    refine ⟨a, xs, e, fun hb => ?_, k a _ n hx, RA.chg k s ds xs q⟩
    rcases s a hb with z | z
    · exact n z
    · rw [z] at hx; cases hx
  | .tuple ds, v, h => by
    unfold R at h ⊢
    obtain ⟨a, xs, e, t, q⟩ := h
    exact ⟨a, xs, e, t.chg k s, RA.chg k s ds xs q⟩
  | .dict _, _, h => by unfold R at h; exact h.elim
theorem RA.chg (k : Kq as H H') (s : ∀ q ∈ bs, q ∈ as ∨ H q = none) : ∀ (ds : List D) (vs : List V), RA K as H vs ds → RA K bs H' vs ds
  | [], _, h => by unfold RA at h ⊢; exact h
  | d :: ds, _, h => by
    unfold RA at h ⊢
    obtain ⟨v, r, e, h1, h2⟩ := h
    exact ⟨v, r, e, R.chg k s d v h1, RA.chg k s ds r h2⟩
end
theorem R.kq {v : V} {d : D} (k : Kq as H H') (h : R K as H v d) : R K as H' v d := R.chg k (fun _ q => .inl q) d v h
theorem RA.kq {vs : List V} {ds : List D} (k : Kq as H H') (h : RA K as H vs ds) : RA K as H' vs ds := RA.chg k (fun _ q => .inl q) ds vs h
theorem R.sub {v : V} {d : D} (s : ∀ a ∈ bs, a ∈ as) (h : R K as H v d) : R K bs H v d := R.chg .refl (fun q z => .inl (s q z)) d v h
theorem RA.sub {vs : List V} {ds : List D} (s : ∀ a ∈ bs, a ∈ as) (h : RA K as H vs ds) : RA K bs H vs ds := RA.chg .refl (fun q z => .inl (s q z)) ds vs h
mutual
theorem R.dp : ∀ (d : D) (v : V), R K as H v d → Dp K H v d
  | .none, _, h => by unfold R at h; subst h; exact .non
  | .bool _, _, h => by unfold R at h; subst h; exact .bl _
  | .int _, _, h => by unfold R at h; subst h; exact .int _
  | .str _, _, h => by unfold R at h; subst h; exact .str _
  | .list ds, v, h => by
    unfold R at h
    obtain ⟨a, xs, rfl, n, hx, q⟩ := h
    exact .lst (.inl (.inl hx)) (RA.dp ds xs q)
  | .tuple ds, v, h => by
    unfold R at h
    obtain ⟨a, xs, rfl, t, q⟩ := h
    exact .tup (SqT.sp t) (RA.dp ds xs q)
  | .dict _, _, h => by unfold R at h; exact h.elim
theorem RA.dp : ∀ (ds : List D) (vs : List V), RA K as H vs ds → DpAll K H vs ds
  | [], _, h => by unfold RA at h; subst h; exact .nil
  | d :: ds, _, h => by
    unfold RA at h
    obtain ⟨v, r, rfl, h1, h2⟩ := h
    exact .cons (R.dp d v h1) (RA.dp ds r h2)
end
theorem RA.length : ∀ {ds : List D} {vs : List V}, RA K as H vs ds → vs.length = ds.length
  | [], _, h => by unfold RA at h; subst h; rfl
  | d :: ds, _, h => by
    unfold RA at h
    obtain ⟨v, r, rfl, _, h2⟩ := h
    rw [List.length_cons, List.length_cons, RA.length h2]
theorem RA.nil : RA K as H [] [] := by unfold RA; rfl
theorem RA.cons {v : V} {vs : List V} {d : D} {ds : List D} (h : R K as H v d) (t : RA K as H vs ds) : RA K as H (v :: vs) (d :: ds) := by
  unfold RA; exact ⟨v, vs, rfl, h, t⟩
theorem RA.get : ∀ {ds : List D} {vs : List V} {i : Nat} {d : D}, RA K as H vs ds → ds[i]? = some d → ∃ v, vs[i]? = some v ∧ R K as H v d
  | [], _, _, _, _, e => by simp at e
  | d :: ds, _, 0, _, h, e => by
    unfold RA at h
    obtain ⟨v, r, rfl, h1, _⟩ := h
    cases (Option.some.inj e : d = _)
    exact ⟨v, rfl, h1⟩
  | d :: ds, _, i + 1, _, h, e => by
    unfold RA at h
    obtain ⟨v, r, rfl, _, h2⟩ := h
    obtain ⟨v', e', q⟩ := RA.get (i := i) h2 (by simpa using e)
    exact ⟨v', by simpa using e', q⟩
theorem RA.get' : ∀ {ds : List D} {vs : List V} {i : Nat} {v : V}, RA K as H vs ds → vs[i]? = some v → ∃ d, ds[i]? = some d ∧ R K as H v d
  | [], _, _, _, h, e => by unfold RA at h; subst h; simp at e
  | d :: ds, _, 0, _, h, e => by
    unfold RA at h
    obtain ⟨v, r, rfl, h1, _⟩ := h
    cases (Option.some.inj e : v = _)
    exact ⟨d, rfl, h1⟩
  | d :: ds, _, i + 1, _, h, e => by
    unfold RA at h
    obtain ⟨v, r, rfl, _, h2⟩ := h
    obtain ⟨v', e', q⟩ := RA.get' (i := i) h2 (by simpa using e)
    exact ⟨v', by simpa using e', q⟩
theorem RA.app : ∀ {ds es : List D} {vs us : List V}, RA K as H vs ds → RA K as H us es → RA K as H (vs ++ us) (ds ++ es)
  | [], _, _, _, h, t => by unfold RA at h; subst h; exact t
  | d :: ds, _, _, _, h, t => by
    unfold RA at h
    obtain ⟨v, r, rfl, h1, h2⟩ := h
    exact RA.cons h1 (RA.app h2 t)
theorem RA.set : ∀ {ds : List D} {vs : List V} {v : V} {d : D} (i : Nat), RA K as H vs ds → R K as H v d → RA K as H (vs.set i v) (ds.set i d)
  | [], _, _, _, _, h, _ => by unfold RA at h; subst h; exact RA.nil
  | d :: ds, _, _, _, 0, h, t => by
    unfold RA at h
    obtain ⟨v, r, rfl, h1, h2⟩ := h
    exact RA.cons t h2
  | d :: ds, _, _, _, i + 1, h, t => by
    unfold RA at h
    obtain ⟨v, r, rfl, h1, h2⟩ := h
    exact RA.cons h1 (RA.set i h2 t)
theorem RA.drop : ∀ {ds : List D} {vs : List V} (n : Nat), RA K as H vs ds → RA K as H (vs.drop n) (ds.drop n)
  | _, _, 0, h => h
  | [], _, _ + 1, h => by unfold RA at h; subst h; exact RA.nil
  | d :: ds, _, n + 1, h => by
    unfold RA at h
    obtain ⟨v, r, rfl, _, h2⟩ := h
    exact RA.drop n h2
theorem RA.take : ∀ {ds : List D} {vs : List V} (n : Nat), RA K as H vs ds → RA K as H (vs.take n) (ds.take n)
  | _, _, 0, h => RA.nil
  | [], _, _ + 1, h => by unfold RA at h; subst h; exact RA.nil
  | d :: ds, _, n + 1, h => by
    unfold RA at h
    obtain ⟨v, r, rfl, h1, h2⟩ := h
    exact RA.cons h1 (RA.take n h2)
theorem RA.rev : ∀ {ds : List D} {vs : List V}, RA K as H vs ds → RA K as H vs.reverse ds.reverse
  | [], _, h => by unfold RA at h; subst h; exact RA.nil
  | d :: ds, _, h => by
    unfold RA at h
    obtain ⟨v, r, rfl, h1, h2⟩ := h
    rw [List.reverse_cons, List.reverse_cons]
    exact RA.app (RA.rev h2) (RA.cons h1 RA.nil)
theorem RA.ints : ∀ {ns : List Int} {vs : List V}, RA K as H vs (ns.map .int) → vs = ns.map .int
  | [], _, h => by unfold RA at h; exact h
  | n :: ns, _, h => by
    unfold RA at h
    obtain ⟨v, r, rfl, h1, h2⟩ := h
    unfold R at h1
    rw [h1, RA.ints h2]; rfl
theorem RA.bools : ∀ {ns : List Bool} {vs : List V}, RA K as H vs (ns.map .bool) → vs = ns.map .bl
  | [], _, h => by unfold RA at h; exact h
  | n :: ns, _, h => by
    unfold RA at h
    obtain ⟨v, r, rfl, h1, h2⟩ := h
    unfold R at h1
    rw [h1, RA.bools h2]; rfl
end

/-! ### the mutable lists, the slots, results -/
def SR (K : PySem.W.Frag) (as : List Addr) (H : Hp) (ms : MS) : Prop :=
  as.Nodup ∧ as.length = ms.length ∧ ∀ (k : Nat) (a : Addr) (ds : List D), as[k]? = some a → ms[k]? = some ds → ∃ xs, H a = some (.lst xs) ∧ RA K as H xs ds
inductive Sl where
  | un | dat (d : D) | mu (k : Nat) | scr (ns : List Int)
def SlOk (K : PySem.W.Frag) (as : List Addr) (H : Hp) : Option V → Sl → Prop
  | _, .un => True
  | o, .dat d => ∃ v, o = some v ∧ R K as H v d
  | o, .mu k => ∃ a, o = some (.ref a) ∧ as[k]? = some a
  | o, .scr ns => ∃ a, o = some (.ref a) ∧ ScrAt K as H a (ns.map V.int)
abbrev Env' := List Sl
def EnvOk (K : PySem.W.Frag) (as : List Addr) (H : Hp) (σ : L2.St) (ρ : Env') : Prop := σ.length = ρ.length ∧ ∀ (i : Nat) (s : Sl) (o : Option V), ρ[i]? = some s → σ[i]? = some o → SlOk K as H o s
inductive Rs where
  | dat (d : D) | mu (k : Nat) | new (ds : List D) | scr (ns : List Int) | ty (T : String)
/-- H0: the heap ahead -/
def RsOk (K : PySem.W.Frag) (as : List Addr) (H0 H : Hp) (v : V) : Rs → Prop
  | .dat d => R K as H v d
  | .mu k => ∃ a, v = .ref a ∧ as[k]? = some a
  | .new ds => ∃ p xs, v = .ref p ∧ H0 p = none ∧ p ∉ as ∧ H p = some (.lst xs) ∧ RA K (p :: as) H xs ds
  | .scr ns => ∃ a, v = .ref a ∧ ScrAt K as H a (ns.map V.int)
  | .ty T => v = .ty T
section
variable {K : PySem.W.Frag} {as : List Addr} {H H0 H1 H' : Hp} {ms : MS} {ρ : Env'} {σ : L2.St}
theorem SR.some_ (h : SR K as H ms) {a : Addr} (ha : a ∈ as) : ∃ (k : Nat) (xs : List V) (ds : List D), as[k]? = some a ∧ ms[k]? = some ds ∧ H a = some (.lst xs) ∧ RA K as H xs ds := by
  obtain ⟨k, hk⟩ := List.getElem?_of_mem ha
  obtain ⟨hl, _⟩ := List.getElem?_eq_some_iff.mp hk
  have hm : k < ms.length := by rw [← h.2.1]; exact hl
  obtain ⟨xs, q1, q2⟩ := h.2.2 k a ms[k] hk (List.getElem?_eq_getElem hm)
  exact ⟨k, xs, ms[k], hk, List.getElem?_eq_getElem hm, q1, q2⟩
theorem SR.notin (h : SR K as H ms) {p : Addr} (hp : H p = none) : p ∉ as := fun z => by
  obtain ⟨_, _, _, _, _, e, _⟩ := h.some_ z
  rw [hp] at e; cases e
theorem SlOk.kq {o : Option V} {s : Sl} (k : Kq as H H') (h : SlOk K as H o s) : SlOk K as H' o s := by
  cases s with
  | un => trivial
  | dat d => obtain ⟨v, e, q⟩ := h; exact ⟨v, e, q.kq k⟩
  | mu k => exact h
  | scr ns => obtain ⟨a, e, q⟩ := h; exact ⟨a, e, q.chg k fun _ z => .inl z⟩
theorem EnvOk.kq (k : Kq as H H') (h : EnvOk K as H σ ρ) : EnvOk K as H' σ ρ := ⟨h.1, fun i s o e1 e2 => (h.2 i s o e1 e2).kq k⟩
theorem RsOk.kq {v : V} {r : Rs} (k : Kq as H H') (h : RsOk K as H0 H v r) : RsOk K as H0 H' v r := by
  cases r with
  | dat d => exact R.kq k h
  | mu k => exact h
  | new ds =>
    obtain ⟨p, xs, e, n, np, hp, q⟩ := h
    exact ⟨p, xs, e, n, np, k p _ np hp, RA.kq (k.sub fun a z => List.mem_cons_of_mem _ z) q⟩
  | scr ns => obtain ⟨a, e, q⟩ := h; exact ⟨a, e, q.chg k fun _ z => .inl z⟩
  | ty T => exact h
theorem fresh_back {p : Addr} (s : SR K as H1 ms) (k : Kq as H H1) (h : H1 p = none) : H p = none := by
  cases e : H p with
  | none => rfl
  | some o =>
    rw [k p o (s.notin h) e] at h
    cases h
theorem RsOk.back {v : V} {r : Rs} (s : SR K as H1 ms) (k : Kq as H H1) (h : RsOk K as H1 H' v r) : RsOk K as H H' v r := by
  cases r with
  | dat d => exact h
  | mu k => exact h
  | new ds =>
    obtain ⟨p, xs, e, n, q⟩ := h
    exact ⟨p, xs, e, fresh_back s k n, q⟩
  | scr ns => exact h
  | ty T => exact h
theorem rInt {i : Int} : RsOk K as H0 H (.int i) (.dat (.int i)) := by unfold RsOk R; rfl
theorem rBool {b : Bool} : RsOk K as H0 H (.bl b) (.dat (.bool b)) := by unfold RsOk R; rfl
theorem RsOk.int {v : V} {i : Int} (h : RsOk K as H0 H v (.dat (.int i))) : v = .int i := by unfold RsOk R at h; exact h
theorem RsOk.bool {v : V} {b : Bool} (h : RsOk K as H0 H v (.dat (.bool b))) : v = .bl b := by unfold RsOk R at h; exact h
/-- what a result is, as data -/
def res (ms : MS) : Rs → Option D
  | .dat d => some d
  | .mu k => (ms[k]?).map .list
  | .new ds => some (.list ds)
  | .scr ns => some (.list (ns.map .int))
  | .ty _ => none
end
end Abs
namespace Abs
open PySem PySem.Spec PyProof.Rows L2

/-! ### a family of contexts -/
structure Sx where
  N : List Str
  sc : Scope
  K : PySem.W.Frag
  mg : Str → Option Value
  P : Program
  w : World
  base : Heap
  k : Nat
  cl : Str → Bool
  n0 : Nat
  tch : Nat → Bool
/-- what may be changed: what the body itself opened, and what it was given for it -/
def Sx.T (S : Sx) (as : List Addr) : Addr → Prop := fun b => ∃ j : Nat, as[j]? = some b ∧ (S.n0 ≤ j ∨ S.tch j = true)
def Kp (T : Addr → Prop) (H H' : Hp) : Prop := ∀ b o, ¬ T b → H b = some o → H' b = some o
theorem Kp.refl {T : Addr → Prop} {H : Hp} : Kp T H H := fun _ _ _ h => h
theorem Kp.trans {T : Addr → Prop} {H H1 H2 : Hp} (a : Kp T H H1) (b : Kp T H1 H2) : Kp T H H2 := fun x o n h => b x o n (a x o n h)
theorem Kp.new {T : Addr → Prop} {H : Hp} {p : Addr} {o : HO} (h : H p = none) : Kp T H (upd H p o) := fun a u _ e => by
  rw [upd_ne (ne_of_none e h)]; exact e
theorem Kp.mut {T : Addr → Prop} {H : Hp} {p : Addr} {o : HO} (h : T p) : Kp T H (upd H p o) := fun a u n e => by
  rw [upd_ne (fun (z : a = p) => n (by rw [z]; exact h))]; exact e
theorem Kp.q {S : Sx} {as : List Addr} {H H' : Hp} (k : Kp (S.T as) H H') : Kq as H H' := fun b o n e => k b o (fun ⟨_, z, _⟩ => n (List.mem_of_getElem? z)) e
section
variable {S : Sx} {as : List Addr} {H H0 H1 H' : Hp} {K : PySem.W.Frag} {ms : MS} {ρ : Env'} {σ : L2.St}
theorem Kp.f {T : Addr → Prop} (k : Kp (fun _ => False) H H') : Kp T H H' := fun b o _ e => k b o (fun z => z) e
theorem R.kp {v : V} {d : D} (k : Kp (S.T as) H H') (h : R K as H v d) : R K as H' v d := R.kq k.q h
theorem RA.kp {v : List V} {d : List D} (k : Kp (S.T as) H H') (h : RA K as H v d) : RA K as H' v d := RA.kq k.q h
theorem SlOk.kp {o : Option V} {s : Sl} (k : Kp (S.T as) H H') (h : SlOk K as H o s) : SlOk K as H' o s := SlOk.kq k.q h
theorem EnvOk.kp (k : Kp (S.T as) H H') (h : EnvOk K as H σ ρ) : EnvOk K as H' σ ρ := EnvOk.kq k.q h
theorem RsOk.kp {v : V} {r : Rs} (k : Kp (S.T as) H H') (h : RsOk K as H0 H v r) : RsOk K as H0 H' v r := RsOk.kq k.q h
theorem fresh_back' {p : Addr} (s : SR K as H1 ms) (k : Kp (S.T as) H H1) (h : H1 p = none) : H p = none := fresh_back s k.q h
theorem RsOk.back' {v : V} {r : Rs} (s : SR K as H1 ms) (k : Kp (S.T as) H H1) (h : RsOk K as H1 H' v r) : RsOk K as H H' v r := RsOk.back s k.q h
end
structure InS (S : Sx) (X : Cx) : Prop where
  n : X.N = S.N
  sc : X.env.scope = S.sc
  k : X.K = S.K
  mg : X.mg = S.mg
  p : X.prog = S.P
  w : X.w = S.w
  base : X.base = S.base
  calm : X.calm = true
  room : Room S.k X.A
  fn : ∀ x, S.cl x = true → X.fn x = true
  xe : X.xe = fun _ _ => False
theorem InS.gl {S : Sx} {X : Cx} (h : InS S X) {x : Str} (g : S.sc.names.lookup x = some .globalImplicit) : Gl X x := by
  show X.env.scope.names.lookup x = _
  rw [h.sc]; exact g
theorem InS.vis {S : Sx} {X : Cx} (h : InS S X) {x : Str} (g : Vis S.sc x) : Vis X.env.scope x := by rw [h.sc]; exact g
theorem InS.loc {S : Sx} {X : Cx} (h : InS S X) {x : Str} (g : Loc S.sc x) : Loc X.env.scope x := by rw [h.sc]; exact g
theorem InS.hf {S : Sx} {X : Cx} (h : InS S X) {x : Str} (g : S.cl x = true ∨ S.sc.names.lookup x = some .local) : X.fn x = true ∨ X.env.scope.names.lookup x = some .local := by
  rcases g with g | g
  · left; exact h.fn x g
  · right; rw [h.sc]; exact g
theorem InS.hu {S : Sx} {X : Cx} (h : InS S X) : X.A.units + 190 < cLine := by have := h.room.un; omega

/-! ### the readings, once for all -/
def cE (S : Sx) (e : Expr) : TE := fun σ H Q => ∃ te : TE, (∀ X, InS S X → PE X e te) ∧ te σ H Q
def cT (S : Sx) (e : Expr) : TT := fun σ H Q => ∃ te : TT, (∀ X, InS S X → PT X e te) ∧ te σ H Q
def cA (S : Sx) (es : List Expr) : TA := fun σ H Q => ∃ te : TA, (∀ X, InS S X → PA X es te) ∧ te σ H Q
def cS (S : Sx) (st : Stmt) : TS := fun D σ H => ∃ ts : TS, (∀ X, InS S X → PS X st ts) ∧ ts D σ H
def cSs (S : Sx) (st : List Stmt) : TS := fun D σ H => ∃ ts : TS, (∀ X, InS S X → PSs X st ts) ∧ ts D σ H
section
variable {S : Sx} {X : Cx}
theorem pe_c (h : InS S X) (e : Expr) : PE X e (cE S e) := ⟨fun pins s σ H Q I ⟨te, p, q⟩ => (p X h).run pins s σ H Q I q⟩
theorem pt_c (h : InS S X) (e : Expr) : PT X e (cT S e) := ⟨fun pins s σ H Q I ⟨te, p, q⟩ => (p X h).run pins s σ H Q I q⟩
theorem pa_c (h : InS S X) (e : List Expr) : PA X e (cA S e) := ⟨fun pos pins s σ H Q I ⟨te, p, q⟩ => (p X h).run pos pins s σ H Q I q⟩
theorem ps_c (h : InS S X) (e : Stmt) : PS X e (cS S e) := ⟨fun pins s σ H Q I ⟨te, p, q⟩ => (p X h).run pins s σ H Q I q⟩
theorem pss_c (h : InS S X) (e : List Stmt) : PSs X e (cSs S e) := ⟨fun pins s σ H Q I ⟨te, p, q⟩ => (p X h).run pins s σ H Q I q⟩
end

/-! ### what evaluates to what -/
def EVt (S : Sx) (te : TE) (ρ : Env') (ms : MS) (r : Rs) (ms' : MS) : Prop := ∀ (as : List Addr) (σ : L2.St) (H : Hp) (Q : VK), SR S.K as H ms → EnvOk S.K as H σ ρ →
  (∀ v H', Kp (S.T as) H H' → SR S.K as H' ms' → RsOk S.K as H H' v r → Q v H') → te σ H Q
def EVb (S : Sx) (te : TT) (ρ : Env') (ms : MS) (b : Bool) (ms' : MS) : Prop := ∀ (as : List Addr) (σ : L2.St) (H : Hp) (Q : Bool → Hp → Prop), SR S.K as H ms → EnvOk S.K as H σ ρ →
  (∀ H', Kp (S.T as) H H' → SR S.K as H' ms' → Q b H') → te σ H Q
/-- values by their results -/
def RsA (K : PySem.W.Frag) (as : List Addr) (H0 H : Hp) : List V → List Rs → Prop
  | vs, [] => vs = []
  | vs, r :: rs => ∃ v u, vs = v :: u ∧ RsOk K as H0 H v r ∧ RsA K as H0 H u rs
def EVa (S : Sx) (te : TA) (ρ : Env') (ms : MS) (rs : List Rs) (ms' : MS) : Prop := ∀ (as : List Addr) (σ : L2.St) (H : Hp) (Q : List V → Hp → Prop), SR S.K as H ms → EnvOk S.K as H σ ρ →
  (∀ vs H', Kp (S.T as) H H' → SR S.K as H' ms' → RsA S.K as H H' vs rs → Q vs H') → te σ H Q
def EE (S : Sx) (e : Expr) (ρ : Env') (ms : MS) (r : Rs) (ms' : MS) : Prop := EVt S (cE S e) ρ ms r ms'
def ET (S : Sx) (e : Expr) (ρ : Env') (ms : MS) (b : Bool) (ms' : MS) : Prop := EVb S (cT S e) ρ ms b ms'
def EA (S : Sx) (es : List Expr) (ρ : Env') (ms : MS) (rs : List Rs) (ms' : MS) : Prop := EVa S (cA S es) ρ ms rs ms'
section
variable {S : Sx} {e : Expr} {es : List Expr} {ρ : Env'} {ms ms' ms1 ms2 : MS} {r r1 r2 r3 : Rs}
theorem EE.of {te : TE} (p : ∀ X, InS S X → PE X e te) (h : EVt S te ρ ms r ms') : EE S e ρ ms r ms' := fun as σ H Q s en k => ⟨te, p, h as σ H Q s en k⟩
theorem ET.of {te : TT} {b : Bool} (p : ∀ X, InS S X → PT X e te) (h : EVb S te ρ ms b ms') : ET S e ρ ms b ms' := fun as σ H Q s en k => ⟨te, p, h as σ H Q s en k⟩
theorem EA.of {te : TA} {rs : List Rs} (p : ∀ X, InS S X → PA X es te) (h : EVa S te ρ ms rs ms') : EA S es ρ ms rs ms' := fun as σ H Q s en k => ⟨te, p, h as σ H Q s en k⟩

/-! ### names, constants -/
theorem ee_var (i : Nat) {x : Str} {pos : Pos} {d : D} (hN : S.N[i]? = some x) (hv : Vis S.sc x) (h : ρ[i]? = some (.dat d)) (hd : (x == ("__debug__" : Str)) = false := by decide) (hcd : (x == ("__classdict__" : Str)) = false := by decide) :
    EE S (.Name x pos) ρ ms (.dat d) ms :=
  .of (te := tVar i) (fun X hX => pe_var (by rw [hX.n]; exact hN) (hX.vis hv) hd hcd) fun as σ H Q s en k => by
    have hl : i < σ.length := by rw [en.1]; exact (List.getElem?_eq_some_iff.mp h).1
    obtain ⟨v, e, q⟩ := en.2 i _ _ h (List.getElem?_eq_getElem hl)
    exact ⟨v, by rw [List.getElem?_eq_getElem hl, e], k v H .refl s q⟩
theorem ee_mu (i : Nat) {x : Str} {pos : Pos} {j : Nat} (hN : S.N[i]? = some x) (hv : Vis S.sc x) (h : ρ[i]? = some (.mu j)) (hd : (x == ("__debug__" : Str)) = false := by decide) (hcd : (x == ("__classdict__" : Str)) = false := by decide) :
    EE S (.Name x pos) ρ ms (.mu j) ms :=
  .of (te := tVar i) (fun X hX => pe_var (by rw [hX.n]; exact hN) (hX.vis hv) hd hcd) fun as σ H Q s en k => by
    have hl : i < σ.length := by rw [en.1]; exact (List.getElem?_eq_some_iff.mp h).1
    obtain ⟨a, e, q⟩ := en.2 i _ _ h (List.getElem?_eq_getElem hl)
    exact ⟨.ref a, by rw [List.getElem?_eq_getElem hl, e], k _ H .refl s ⟨a, rfl, q⟩⟩
theorem ee_scr (i : Nat) {x : Str} {pos : Pos} {ns : List Int} (hN : S.N[i]? = some x) (hv : Vis S.sc x) (h : ρ[i]? = some (.scr ns)) (hd : (x == ("__debug__" : Str)) = false := by decide) (hcd : (x == ("__classdict__" : Str)) = false := by decide) :
    EE S (.Name x pos) ρ ms (.scr ns) ms :=
  .of (te := tVar i) (fun X hX => pe_var (by rw [hX.n]; exact hN) (hX.vis hv) hd hcd) fun as σ H Q s en k => by
    have hl : i < σ.length := by rw [en.1]; exact (List.getElem?_eq_some_iff.mp h).1
    obtain ⟨a, e, q⟩ := en.2 i _ _ h (List.getElem?_eq_getElem hl)
    exact ⟨.ref a, by rw [List.getElem?_eq_getElem hl, e], k _ H .refl s ⟨a, rfl, q⟩⟩
theorem evt_c {v : V} {d : D} (h : ∀ as H, R S.K as H v d) : EVt S (tC v) ρ ms (.dat d) ms := fun as σ H Q s en k => k v H .refl s (h as H)
theorem ee_int {i : Int} {j pos} : EE S (.Constant (.int i) j pos) ρ ms (.dat (.int i)) ms := .of (fun _ _ => pe_int) (evt_c fun _ _ => by unfold R; rfl)
theorem ee_bool {b : Bool} {j pos} : EE S (.Constant (.bool b) j pos) ρ ms (.dat (.bool b)) ms := .of (fun _ _ => pe_bl) (evt_c fun _ _ => by unfold R; rfl)
theorem ee_none {j pos} : EE S (.Constant .none j pos) ρ ms (.dat .none) ms := .of (fun _ _ => pe_non) (evt_c fun _ _ => by unfold R; rfl)
theorem ee_str {x : Str} {j pos} : EE S (.Constant (.str x) j pos) ρ ms (.dat (.str x)) ms := .of (fun _ _ => pe_str) (evt_c fun _ _ => by unfold R; rfl)
theorem ee_gint {x : Str} {i : Int} {pos : Pos} (hm : ∃ t, S.mg x = some (.int i t)) (hg : S.sc.names.lookup x = some .globalImplicit) (hd : (x == ("__debug__" : Str)) = false := by decide) : EE S (.Name x pos) ρ ms (.dat (.int i)) ms := by
  obtain ⟨t, hm⟩ := hm
  exact .of (fun X hX => pe_glob (hX.gl hg) (by rw [hX.mg]; exact hm) (v := .int i) ⟨t, rfl⟩ hd) (evt_c fun _ _ => by unfold R; rfl)
theorem ee_gstr {x z : Str} {pos : Pos} (hm : ∃ t, S.mg x = some (.str z t)) (hg : S.sc.names.lookup x = some .globalImplicit) (hd : (x == ("__debug__" : Str)) = false := by decide) : EE S (.Name x pos) ρ ms (.dat (.str z)) ms := by
  obtain ⟨t, hm⟩ := hm
  exact .of (fun X hX => pe_glob (hX.gl hg) (by rw [hX.mg]; exact hm) (v := .str z) ⟨t, rfl⟩ hd) (evt_c fun _ _ => by unfold R; rfl)

/-! ### operators -/
/-- a two-place reading over results -/
def Op2 (S : Sx) (r : R2) (r1 r2 : Rs) (ms : MS) (r3 : Rs) : Prop := ∀ (as : List Addr) (H0 H : Hp) (x y : V), SR S.K as H ms → RsOk S.K as H0 H x r1 → RsOk S.K as H0 H y r2 →
  ∀ Q : VK, (∀ v H', Kp (fun _ => False) H H' → SR S.K as H' ms → RsOk S.K as H H' v r3 → Q v H') → r x y H Q
theorem evt_op {r : R2} {ta tb : TE} (ha : EVt S ta ρ ms r1 ms1) (hb : EVt S tb ρ ms1 r2 ms2) (h : Op2 S r r1 r2 ms2 r3) : EVt S (tOp r ta tb) ρ ms r3 ms2 := fun as σ H Q s en k =>
  ha as σ H _ s en fun x H1 k1 s1 q1 => hb as σ H1 _ s1 (en.kp k1) fun y H2 k2 s2 q2 =>
    h as H H2 x y s2 (q1.kp k2) (q2.back' s1 k1) Q fun v H3 k3 s3 q3 => k v H3 ((k1.trans k2).trans k3.f) s3 (q3.back' s2 (k1.trans k2))
theorem ee_op {r : R2} {a b : Expr} {op : Operator} {pos : Pos} (ho : ∀ X, InS S X → OpR X (binaryOp op) r) (h : Op2 S r r1 r2 ms2 r3) (ha : EE S a ρ ms r1 ms1) (hb : EE S b ρ ms1 r2 ms2) : EE S (.BinOp a op b pos) ρ ms r3 ms2 :=
  .of (fun X hX => pe_op (ho X hX) (pe_c hX a) (pe_c hX b)) (evt_op ha hb h)
theorem ee_cmp {r : R2} {a b : Expr} {op : CmpOp} {pos : Pos} (ho : ∀ X, InS S X → OpR X (compareOp op) r) (hm : behindInMarks op b = false) (h : Op2 S r r1 r2 ms2 r3) (ha : EE S a ρ ms r1 ms1) (hb : EE S b ρ ms1 r2 ms2) : EE S (.Compare a [op] [b] pos) ρ ms r3 ms2 :=
  .of (fun X hX => pe_cmpR (ho X hX) (pe_c hX a) (pe_c hX b) hm) (evt_op ha hb h)
theorem et_cmp {r : R2} {a b : Expr} {op : CmpOp} {pos : Pos} {c : Bool} (ho : ∀ X, InS S X → OpR X (compareOp op) r) (hm : behindInMarks op b = false) (h : Op2 S r r1 r2 ms2 (.dat (.bool c))) (ha : EE S a ρ ms r1 ms1) (hb : EE S b ρ ms1 r2 ms2) : ET S (.Compare a [op] [b] pos) ρ ms c ms2 :=
  .of (fun X hX => pt_cmpR (ho X hX) (pe_c hX a) (pe_c hX b) hm) fun as σ H Q s en k => evt_op ha hb h as σ H _ s en fun v H' k1 s1 q => by
    unfold RsOk R at q
    exact ⟨c, q, k H' k1 s1⟩
theorem op2_I0 {g : Int → Int → Int} {i j : Int} : Op2 S (rI0 fun i j => .int (g i j)) (.dat (.int i)) (.dat (.int j)) ms (.dat (.int (g i j))) := fun as H0 H x y s h1 h2 Q k => by
  unfold RsOk R at h1 h2
  exact ⟨i, j, h1, h2, k _ H .refl s (by unfold RsOk R; rfl)⟩
theorem op2_I {C : Int → Int → Prop} {g : Int → Int → Int} {i j : Int} (hc : C i j) : Op2 S (rI C fun i j => .int (g i j)) (.dat (.int i)) (.dat (.int j)) ms (.dat (.int (g i j))) := fun as H0 H x y s h1 h2 Q k => by
  unfold RsOk R at h1 h2
  exact ⟨i, j, h1, h2, hc, k _ H .refl s (by unfold RsOk R; rfl)⟩
theorem op2_B0 {g : Int → Int → Bool} {i j : Int} : Op2 S (rI0 fun i j => .bl (g i j)) (.dat (.int i)) (.dat (.int j)) ms (.dat (.bool (g i j))) := fun as H0 H x y s h1 h2 Q k => by
  unfold RsOk R at h1 h2
  exact ⟨i, j, h1, h2, k _ H .refl s (by unfold RsOk R; rfl)⟩
variable {a b : Expr} {pos : Pos} {i j : Int}
theorem ee_add (ha : EE S a ρ ms (.dat (.int i)) ms1) (hb : EE S b ρ ms1 (.dat (.int j)) ms2) : EE S (.BinOp a .Add b pos) ρ ms (.dat (.int (i + j))) ms2 := ee_op (fun _ _ => op_add) op2_I0 ha hb
theorem ee_sub (ha : EE S a ρ ms (.dat (.int i)) ms1) (hb : EE S b ρ ms1 (.dat (.int j)) ms2) : EE S (.BinOp a .Sub b pos) ρ ms (.dat (.int (i - j))) ms2 := ee_op (fun _ _ => op_sub) op2_I0 ha hb
theorem ee_mul (ha : EE S a ρ ms (.dat (.int i)) ms1) (hb : EE S b ρ ms1 (.dat (.int j)) ms2) (hc : CMulW i j) : EE S (.BinOp a .Mult b pos) ρ ms (.dat (.int (i * j))) ms2 := ee_op (fun _ _ => op_mulW) (op2_I hc) ha hb
theorem ee_div (ha : EE S a ρ ms (.dat (.int i)) ms1) (hb : EE S b ρ ms1 (.dat (.int j)) ms2) (hc : CDivW i j) : EE S (.BinOp a .FloorDiv b pos) ρ ms (.dat (.int (i / j))) ms2 := ee_op (fun _ _ => op_fdivW) (op2_I hc) ha hb
theorem ee_mod (ha : EE S a ρ ms (.dat (.int i)) ms1) (hb : EE S b ρ ms1 (.dat (.int j)) ms2) (hc : 0 < j) : EE S (.BinOp a .Mod b pos) ρ ms (.dat (.int (i % j))) ms2 := ee_op (fun _ _ => op_mod) (op2_I (C := fun _ j => 0 < j) hc) ha hb
theorem ee_pow (ha : EE S a ρ ms (.dat (.int i)) ms1) (hb : EE S b ρ ms1 (.dat (.int j)) ms2) (hc : CPow i j) : EE S (.BinOp a .Pow b pos) ρ ms (.dat (.int (i ^ j.toNat))) ms2 := ee_op (fun _ _ => op_pow) (op2_I hc) ha hb
theorem ee_lt (hm : behindInMarks .Lt b = false) (ha : EE S a ρ ms (.dat (.int i)) ms1) (hb : EE S b ρ ms1 (.dat (.int j)) ms2) : EE S (.Compare a [.Lt] [b] pos) ρ ms (.dat (.bool (decide (i < j)))) ms2 := ee_cmp (fun _ _ => op_lt) hm op2_B0 ha hb
theorem ee_le (hm : behindInMarks .LtE b = false) (ha : EE S a ρ ms (.dat (.int i)) ms1) (hb : EE S b ρ ms1 (.dat (.int j)) ms2) : EE S (.Compare a [.LtE] [b] pos) ρ ms (.dat (.bool (decide (i ≤ j)))) ms2 := ee_cmp (fun _ _ => op_le) hm op2_B0 ha hb
theorem ee_gt (hm : behindInMarks .Gt b = false) (ha : EE S a ρ ms (.dat (.int i)) ms1) (hb : EE S b ρ ms1 (.dat (.int j)) ms2) : EE S (.Compare a [.Gt] [b] pos) ρ ms (.dat (.bool (decide (j < i)))) ms2 := ee_cmp (fun _ _ => op_gt) hm op2_B0 ha hb
theorem ee_ge (hm : behindInMarks .GtE b = false) (ha : EE S a ρ ms (.dat (.int i)) ms1) (hb : EE S b ρ ms1 (.dat (.int j)) ms2) : EE S (.Compare a [.GtE] [b] pos) ρ ms (.dat (.bool (decide (j ≤ i)))) ms2 := ee_cmp (fun _ _ => op_ge) hm op2_B0 ha hb
theorem et_lt (hm : behindInMarks .Lt b = false) (ha : EE S a ρ ms (.dat (.int i)) ms1) (hb : EE S b ρ ms1 (.dat (.int j)) ms2) : ET S (.Compare a [.Lt] [b] pos) ρ ms (decide (i < j)) ms2 := et_cmp (fun _ _ => op_lt) hm op2_B0 ha hb
theorem et_le (hm : behindInMarks .LtE b = false) (ha : EE S a ρ ms (.dat (.int i)) ms1) (hb : EE S b ρ ms1 (.dat (.int j)) ms2) : ET S (.Compare a [.LtE] [b] pos) ρ ms (decide (i ≤ j)) ms2 := et_cmp (fun _ _ => op_le) hm op2_B0 ha hb
theorem et_gt (hm : behindInMarks .Gt b = false) (ha : EE S a ρ ms (.dat (.int i)) ms1) (hb : EE S b ρ ms1 (.dat (.int j)) ms2) : ET S (.Compare a [.Gt] [b] pos) ρ ms (decide (j < i)) ms2 := et_cmp (fun _ _ => op_gt) hm op2_B0 ha hb
theorem et_ge (hm : behindInMarks .GtE b = false) (ha : EE S a ρ ms (.dat (.int i)) ms1) (hb : EE S b ρ ms1 (.dat (.int j)) ms2) : ET S (.Compare a [.GtE] [b] pos) ρ ms (decide (j ≤ i)) ms2 := et_cmp (fun _ _ => op_ge) hm op2_B0 ha hb
/-- == of ints: as a scalar -/
theorem op2_eqI {i j : Int} : Op2 S rEq (.dat (.int i)) (.dat (.int j)) ms (.dat (.bool (decide (i = j)))) := fun as H0 H x y s h1 h2 Q k => by
  unfold RsOk R at h1 h2
  subst h1 h2
  exact ⟨rfl, k _ H .refl s (by unfold RsOk R; simp)⟩
theorem op2_neI {i j : Int} : Op2 S rNe (.dat (.int i)) (.dat (.int j)) ms (.dat (.bool (decide (i ≠ j)))) := fun as H0 H x y s h1 h2 Q k => by
  unfold RsOk R at h1 h2
  subst h1 h2
  exact ⟨rfl, k _ H .refl s (by unfold RsOk R; simp)⟩
theorem ee_eqI (hm : behindInMarks .Eq b = false) (ha : EE S a ρ ms (.dat (.int i)) ms1) (hb : EE S b ρ ms1 (.dat (.int j)) ms2) : EE S (.Compare a [.Eq] [b] pos) ρ ms (.dat (.bool (decide (i = j)))) ms2 := ee_cmp (fun _ _ => op_eq) hm op2_eqI ha hb
theorem et_eqI (hm : behindInMarks .Eq b = false) (ha : EE S a ρ ms (.dat (.int i)) ms1) (hb : EE S b ρ ms1 (.dat (.int j)) ms2) : ET S (.Compare a [.Eq] [b] pos) ρ ms (decide (i = j)) ms2 := et_cmp (fun _ _ => op_eq) hm op2_eqI ha hb
theorem ee_neI (hm : behindInMarks .NotEq b = false) (ha : EE S a ρ ms (.dat (.int i)) ms1) (hb : EE S b ρ ms1 (.dat (.int j)) ms2) : EE S (.Compare a [.NotEq] [b] pos) ρ ms (.dat (.bool (decide (i ≠ j)))) ms2 := ee_cmp (fun _ _ => op_ne) hm op2_neI ha hb
theorem et_neI (hm : behindInMarks .NotEq b = false) (ha : EE S a ρ ms (.dat (.int i)) ms1) (hb : EE S b ρ ms1 (.dat (.int j)) ms2) : ET S (.Compare a [.NotEq] [b] pos) ρ ms (decide (i ≠ j)) ms2 := et_cmp (fun _ _ => op_ne) hm op2_neI ha hb
/-- == of data of any depth -/
theorem RsOk.dp {K : PySem.W.Frag} {as : List Addr} {H0 H : Hp} {v : V} {r : Rs} {d : D} (s : SR K as H ms) (h : RsOk K as H0 H v r) (e : res ms r = some d) : Dp K H v d := by
  cases r with
  | dat d' => cases e; exact R.dp _ _ h
  | mu k =>
    obtain ⟨p, rfl, hk⟩ := h
    have e : (ms[k]?).map PyData.list = some d := e
    cases hm : ms[k]? with
    | none => rw [hm] at e; cases e
    | some ds =>
      rw [hm] at e
      cases e
      obtain ⟨xs, q1, q2⟩ := s.2.2 k p ds hk hm
      exact .lst (.inl (.inl q1)) (RA.dp _ _ q2)
  | new ds =>
    cases e
    obtain ⟨p, xs, rfl, n, np, q1, q2⟩ := h
    exact .lst (.inl (.inl q1)) (RA.dp _ _ q2)
  | scr ns =>
    cases e
    obtain ⟨p, rfl, q⟩ := h
    refine .lst q.sq ?_
    clear q
    induction ns with
    | nil => exact .nil
    | cons n ns ih => exact .cons (.int _) ih
  | ty T => cases e
theorem op2_eqD {d e : D} (h1 : res ms r1 = some d) (h2 : res ms r2 = some e) (s1 : SeqAt.shaped d = true) (s2 : SeqAt.shaped e = true) : Op2 S (rEqD S.K) r1 r2 ms (.dat (.bool (PyData.eqv d e))) := fun as H0 H x y s q1 q2 Q k =>
  ⟨d, e, q1.dp s h1, q2.dp s h2, s1, s2, k _ H .refl s (by unfold RsOk R; rfl)⟩
theorem op2_neD {d e : D} (h1 : res ms r1 = some d) (h2 : res ms r2 = some e) (s1 : SeqAt.shaped d = true) (s2 : SeqAt.shaped e = true) : Op2 S (rNeD S.K) r1 r2 ms (.dat (.bool (!PyData.eqv d e))) := fun as H0 H x y s q1 q2 Q k =>
  ⟨d, e, q1.dp s h1, q2.dp s h2, s1, s2, k _ H .refl s (by unfold RsOk R; rfl)⟩
theorem o_eqD {X : Cx} (hX : InS S X) : OpR X (compareOp .Eq) (rEqD S.K) := by
  have h := op_eqD (X := X) (by have := hX.hu; omega)
  rw [hX.k] at h; exact h
theorem o_neD {X : Cx} (hX : InS S X) : OpR X (compareOp .NotEq) (rNeD S.K) := by
  have h := op_neD (X := X) (by have := hX.hu; omega)
  rw [hX.k] at h; exact h
variable {d d' : D}
theorem ee_eqD (hm : behindInMarks .Eq b = false) (ha : EE S a ρ ms r1 ms1) (hb : EE S b ρ ms1 r2 ms2) (h1 : res ms2 r1 = some d) (h2 : res ms2 r2 = some d') (s1 : SeqAt.shaped d = true) (s2 : SeqAt.shaped d' = true) :
    EE S (.Compare a [.Eq] [b] pos) ρ ms (.dat (.bool (PyData.eqv d d'))) ms2 := ee_cmp (fun _ hX => o_eqD hX) hm (op2_eqD h1 h2 s1 s2) ha hb
theorem et_eqD (hm : behindInMarks .Eq b = false) (ha : EE S a ρ ms r1 ms1) (hb : EE S b ρ ms1 r2 ms2) (h1 : res ms2 r1 = some d) (h2 : res ms2 r2 = some d') (s1 : SeqAt.shaped d = true) (s2 : SeqAt.shaped d' = true) :
    ET S (.Compare a [.Eq] [b] pos) ρ ms (PyData.eqv d d') ms2 := et_cmp (fun _ hX => o_eqD hX) hm (op2_eqD h1 h2 s1 s2) ha hb
theorem ee_neD (hm : behindInMarks .NotEq b = false) (ha : EE S a ρ ms r1 ms1) (hb : EE S b ρ ms1 r2 ms2) (h1 : res ms2 r1 = some d) (h2 : res ms2 r2 = some d') (s1 : SeqAt.shaped d = true) (s2 : SeqAt.shaped d' = true) :
    EE S (.Compare a [.NotEq] [b] pos) ρ ms (.dat (.bool (!PyData.eqv d d'))) ms2 := ee_cmp (fun _ hX => o_neD hX) hm (op2_neD h1 h2 s1 s2) ha hb
theorem et_neD (hm : behindInMarks .NotEq b = false) (ha : EE S a ρ ms r1 ms1) (hb : EE S b ρ ms1 r2 ms2) (h1 : res ms2 r1 = some d) (h2 : res ms2 r2 = some d') (s1 : SeqAt.shaped d = true) (s2 : SeqAt.shaped d' = true) :
    ET S (.Compare a [.NotEq] [b] pos) ρ ms (!PyData.eqv d d') ms2 := et_cmp (fun _ hX => o_neD hX) hm (op2_neD h1 h2 s1 s2) ha hb
end
end Abs
namespace Abs
open PySem PySem.Spec PyProof.Rows L2
section
variable {S : Sx} {e a b c : Expr} {es rest : List Expr} {ρ : Env'} {ms ms' ms1 ms2 ms3 : MS} {r r1 r2 r3 : Rs} {pos : Pos} {t u : Bool} {i j : Int}

/-! ### and, or, not, if-else -/
def cW (S : Sx) (e : Expr) : TT := fun σ H Q => ∃ te : TT, (∀ X, InS S X → PW X e te) ∧ te σ H Q
theorem pw_c {X : Cx} (h : InS S X) (e : Expr) : PW X e (cW S e) := ⟨fun wh pins s σ H Q I ⟨te, p, q⟩ => (p X h).run wh pins s σ H Q I q⟩
def EW (S : Sx) (e : Expr) (ρ : Env') (ms : MS) (b : Bool) (ms' : MS) : Prop := EVb S (cW S e) ρ ms b ms'
theorem EW.of {te : TT} (p : ∀ X, InS S X → PW X e te) (h : EVb S te ρ ms t ms') : EW S e ρ ms t ms' := fun as σ H Q s en k => ⟨te, p, h as σ H Q s en k⟩
theorem et_w (h : EW S e ρ ms t ms') : ET S e ρ ms t ms' := .of (fun X hX => (pw_c hX e).pt) h
theorem ew_and1 (h : ET S a ρ ms t ms') : EW S (.BoolOp .And [a] pos) ρ ms t ms' := .of (fun X hX => pw_and1 (pt_c hX a)) h
theorem ew_or1 (h : ET S a ρ ms t ms') : EW S (.BoolOp .Or [a] pos) ρ ms t ms' := .of (fun X hX => pw_or1 (pt_c hX a)) h
theorem ew_and (h : ET S a ρ ms t ms1) (h1 : t = true → EW S (.BoolOp .And (b :: rest) pos) ρ ms1 u ms2) (h0 : t = false → u = false ∧ ms2 = ms1) : EW S (.BoolOp .And (a :: b :: rest) pos) ρ ms u ms2 :=
  .of (fun X hX => pw_and (pt_c hX a) (pw_c hX _)) fun as σ H Q s en k => h as σ H _ s en fun H1 k1 s1 => by
    cases t with
    | true => exact iteT (h1 rfl as σ H1 Q s1 (en.kp k1) fun H2 k2 s2 => k H2 (k1.trans k2) s2)
    | false =>
      obtain ⟨rfl, rfl⟩ := h0 rfl
      exact iteF (k H1 k1 s1)
theorem ew_or (h : ET S a ρ ms t ms1) (h1 : t = false → EW S (.BoolOp .Or (b :: rest) pos) ρ ms1 u ms2) (h0 : t = true → u = true ∧ ms2 = ms1) : EW S (.BoolOp .Or (a :: b :: rest) pos) ρ ms u ms2 :=
  .of (fun X hX => pw_or (pt_c hX a) (pw_c hX _)) fun as σ H Q s en k => h as σ H _ s en fun H1 k1 s1 => by
    cases t with
    | false => exact iteF (h1 rfl as σ H1 Q s1 (en.kp k1) fun H2 k2 s2 => k H2 (k1.trans k2) s2)
    | true =>
      obtain ⟨rfl, rfl⟩ := h0 rfl
      exact iteT (k H1 k1 s1)
theorem et_not (h : ET S a ρ ms t ms') : ET S (.UnaryOp .Not a pos) ρ ms (!t) ms' :=
  .of (fun X hX => pt_not (pt_c hX a)) fun as σ H Q s en k => h as σ H _ s en fun H1 k1 s1 => k H1 k1 s1
theorem et_val (he : ∀ env whole, isTrue e env whole = (do let v ← whole; standAt e.pos; holding [v] (truthy v))) (h : EE S e ρ ms (.dat (.bool t)) ms') : ET S e ρ ms t ms' :=
  .of (fun X hX => pt_val (pe_c hX e) (he _)) fun as σ H Q s en k => h as σ H _ s en fun v H1 k1 s1 q => by
    unfold RsOk R at q
    exact ⟨t, q, k H1 k1 s1⟩
theorem ee_one {op} (h : EE S a ρ ms r ms') : EE S (.BoolOp op [a] pos) ρ ms r ms' := .of (fun X hX => pe_one (pe_c hX a)) h
theorem ee_and (h : EE S a ρ ms (.dat (.bool t)) ms1) (h1 : t = true → EE S (.BoolOp .And (b :: rest) pos) ρ ms1 (.dat (.bool u)) ms2) (h0 : t = false → u = false ∧ ms2 = ms1) : EE S (.BoolOp .And (a :: b :: rest) pos) ρ ms (.dat (.bool u)) ms2 :=
  .of (fun X hX => pe_and (pe_c hX a) (pe_c hX _)) fun as σ H Q s en k => h as σ H _ s en fun v H1 k1 s1 q => by
    unfold RsOk R at q
    refine ⟨t, q, ?_⟩
    cases t with
    | true => exact iteT (h1 rfl as σ H1 Q s1 (en.kp k1) fun v H2 k2 s2 q2 => k v H2 (k1.trans k2) s2 (q2.back' s1 k1))
    | false =>
      obtain ⟨rfl, rfl⟩ := h0 rfl
      exact iteF (k _ H1 k1 s1 (by unfold RsOk R; rfl))
theorem ee_or (h : EE S a ρ ms (.dat (.bool t)) ms1) (h1 : t = false → EE S (.BoolOp .Or (b :: rest) pos) ρ ms1 (.dat (.bool u)) ms2) (h0 : t = true → u = true ∧ ms2 = ms1) : EE S (.BoolOp .Or (a :: b :: rest) pos) ρ ms (.dat (.bool u)) ms2 :=
  .of (fun X hX => pe_or (pe_c hX a) (pe_c hX _)) fun as σ H Q s en k => h as σ H _ s en fun v H1 k1 s1 q => by
    unfold RsOk R at q
    refine ⟨t, q, ?_⟩
    cases t with
    | false => exact iteF (h1 rfl as σ H1 Q s1 (en.kp k1) fun v H2 k2 s2 q2 => k v H2 (k1.trans k2) s2 (q2.back' s1 k1))
    | true =>
      obtain ⟨rfl, rfl⟩ := h0 rfl
      exact iteT (k _ H1 k1 s1 (by unfold RsOk R; rfl))
theorem ee_not (h : EE S a ρ ms (.dat (.bool t)) ms') : EE S (.UnaryOp .Not a pos) ρ ms (.dat (.bool (!t))) ms' :=
  .of (fun X hX => pe_not (pe_c hX a)) fun as σ H Q s en k => h as σ H _ s en fun v H1 k1 s1 q => by
    unfold RsOk R at q
    exact ⟨t, q, k _ H1 k1 s1 (by unfold RsOk R; rfl)⟩
theorem ee_if (h : ET S c ρ ms t ms1) (h1 : t = true → EE S a ρ ms1 r ms2) (h0 : t = false → EE S b ρ ms1 r ms2) : EE S (.IfExp c a b pos) ρ ms r ms2 :=
  .of (fun X hX => pe_ifExp (pt_c hX c) (pe_c hX a) (pe_c hX b)) fun as σ H Q s en k => h as σ H _ s en fun H1 k1 s1 => by
    cases t with
    | true => exact iteT (h1 rfl as σ H1 Q s1 (en.kp k1) fun v H2 k2 s2 q2 => k v H2 (k1.trans k2) s2 (q2.back' s1 k1))
    | false => exact iteF (h0 rfl as σ H1 Q s1 (en.kp k1) fun v H2 k2 s2 q2 => k v H2 (k1.trans k2) s2 (q2.back' s1 k1))
theorem ee_neg (h : EE S a ρ ms (.dat (.int i)) ms') : EE S (.UnaryOp .USub a pos) ρ ms (.dat (.int (-i))) ms' :=
  .of (fun X hX => pe_un un_neg (pe_c hX a)) fun as σ H Q s en k => h as σ H _ s en fun v H1 k1 s1 q => by
    unfold RsOk R at q
    exact ⟨i, q, k _ H1 k1 s1 (by unfold RsOk R; rfl)⟩
/-- a op b op' c of ints -/
theorem ee_chain {op op' : CmpOp} {g g' : Int → Int → Bool} {k : Int} (ho : ∀ X : Cx, OpR X (compareOp op) (rI0 fun i j => .bl (g i j))) (ho' : ∀ X : Cx, OpR X (compareOp op') (rI0 fun i j => .bl (g' i j)))
    (hm : lastMarks [op, op'] [b, c] = false) (ha : EE S a ρ ms (.dat (.int i)) ms) (hb : EE S b ρ ms (.dat (.int j)) ms) (hc : EE S c ρ ms (.dat (.int k)) ms) : EE S (.Compare a [op, op'] [b, c] pos) ρ ms (.dat (.bool (g i j && g' j k))) ms :=
  .of (fun X hX => pe_chain (ho X) (ho' X) (pe_c hX a) (pe_c hX b) (pe_c hX c) hm) fun as σ H Q s en kk => ha as σ H _ s en fun v H1 k1 s1 q1 => hb as σ H1 _ s1 (en.kp k1) fun v2 H2 k2 s2 q2 => by
    refine ⟨i, j, q1.int, q2.int, g i j, rfl, ?_⟩
    cases hg : g i j with
    | true =>
      refine iteT (hc as σ H2 _ s2 (en.kp (k1.trans k2)) fun v3 H3 k3 s3 q3 => ?_)
      rw [hg] at kk
      exact ⟨j, k, q2.int, q3.int, kk _ H3 ((k1.trans k2).trans k3) s3 rBool⟩
    | false =>
      rw [hg] at kk
      exact iteF (kk _ H2 (k1.trans k2) s2 rBool)
theorem et_chain {op op' : CmpOp} {g g' : Int → Int → Bool} {k : Int} (ho : ∀ X : Cx, OpR X (compareOp op) (rI0 fun i j => .bl (g i j))) (ho' : ∀ X : Cx, OpR X (compareOp op') (rI0 fun i j => .bl (g' i j)))
    (hm : lastMarks [op, op'] [b, c] = false) (ha : EE S a ρ ms (.dat (.int i)) ms) (hb : EE S b ρ ms (.dat (.int j)) ms) (hc : EE S c ρ ms (.dat (.int k)) ms) : ET S (.Compare a [op, op'] [b, c] pos) ρ ms (g i j && g' j k) ms :=
  .of (fun X hX => pt_chain (ho X) (ho' X) (pe_c hX a) (pe_c hX b) (pe_c hX c) hm) fun as σ H Q s en kk => ha as σ H _ s en fun v H1 k1 s1 q1 => hb as σ H1 _ s1 (en.kp k1) fun v2 H2 k2 s2 q2 => by
    refine ⟨i, j, q1.int, q2.int, g i j, rfl, ?_⟩
    cases hg : g i j with
    | true =>
      refine iteT (hc as σ H2 _ s2 (en.kp (k1.trans k2)) fun v3 H3 k3 s3 q3 => ?_)
      rw [hg] at kk
      exact ⟨j, k, q2.int, q3.int, _, rfl, kk H3 ((k1.trans k2).trans k3) s3⟩
    | false =>
      rw [hg] at kk
      exact iteF ⟨_, rfl, kk H2 (k1.trans k2) s2⟩

/-! ### argument lists, displays -/
theorem RsA.kp {K : PySem.W.Frag} {as : List Addr} {H0 H H' : Hp} (k : Kp (S.T as) H H') : ∀ {rs : List Rs} {vs : List V}, RsA K as H0 H vs rs → RsA K as H0 H' vs rs
  | [], _, h => h
  | r :: rs, _, ⟨v, u, e, h1, h2⟩ => ⟨v, u, e, h1.kp k, RsA.kp k h2⟩
theorem RsA.back' {K : PySem.W.Frag} {as : List Addr} {H H1 H' : Hp} (s : SR K as H1 ms) (k : Kp (S.T as) H H1) : ∀ {rs : List Rs} {vs : List V}, RsA K as H1 H' vs rs → RsA K as H H' vs rs
  | [], _, h => h
  | r :: rs, _, ⟨v, u, e, h1, h2⟩ => ⟨v, u, e, h1.back' s k, RsA.back' s k h2⟩
theorem ea_nil : EA S [] ρ ms [] ms := .of (fun _ _ => pa_nil) fun as σ H Q s en k => k [] H .refl s rfl
theorem ea_cons {rs : List Rs} (hs : ∀ X : Cx, ∀ (te : TE) (tr : TA), PE X a te → PA X es tr → PA X (a :: es) (tCons te tr)) (ha : EE S a ρ ms r ms1) (hr : EA S es ρ ms1 rs ms2) : EA S (a :: es) ρ ms (r :: rs) ms2 :=
  .of (te := tCons (cE S a) (cA S es)) (fun X hX => hs X _ _ (pe_c hX a) (pa_c hX es)) fun as σ H Q s en k => ha as σ H _ s en fun v H1 k1 s1 q1 => hr as σ H1 _ s1 (en.kp k1) fun vs H2 k2 s2 q2 =>
    k _ H2 (k1.trans k2) s2 ⟨v, vs, rfl, q1.kp k2, q2.back' s1 k1⟩
/-- results as data -/
def frz : Rs → Option D
  | .dat d => some d
  | .new ds => some (.list ds)
  | _ => none
def frzA : List Rs → Option (List D)
  | [] => some []
  | r :: rs => (frz r).bind fun d => (frzA rs).map (d :: ·)
theorem RsOk.frz {K : PySem.W.Frag} {as : List Addr} {H0 H : Hp} {v : V} {d : D} (h : RsOk K as H0 H v r) (e : frz r = some d) : R K as H v d := by
  cases r with
  | dat d' => cases e; exact h
  | new ds =>
    cases e
    obtain ⟨p, xs, e1, n, np, hp, q⟩ := h
    unfold R
    exact ⟨p, xs, e1, np, hp, RA.sub (fun a z => List.mem_cons_of_mem _ z) q⟩
  | mu k => cases e
  | scr ns => cases e
  | ty T => cases e
theorem RsA.frz {K : PySem.W.Frag} {as : List Addr} {H0 H : Hp} : ∀ {rs : List Rs} {vs : List V} {ds : List D}, RsA K as H0 H vs rs → frzA rs = some ds → RA K as H vs ds
  | [], vs, ds, h, e => by
    cases e
    have h : vs = [] := h
    subst h
    exact RA.nil
  | r :: rs, _, ds, ⟨v, u, e, h1, h2⟩, ef => by
    subst e
    unfold frzA at ef
    cases e1 : Abs.frz r with
    | none => rw [e1] at ef; cases ef
    | some d =>
      rw [e1] at ef
      cases e2 : frzA rs with
      | none => rw [e2] at ef; cases ef
      | some ds' =>
        rw [e2] at ef
        cases ef
        exact RA.cons (h1.frz e1) (h2.frz e2)
theorem SR.new {K : PySem.W.Frag} {as : List Addr} {H : Hp} {p : Addr} {o : HO} (s : SR K as H ms) (hp : H p = none) : SR K as (upd H p o) ms := ⟨s.1, s.2.1, fun kk a ds' e1 e2 => by
    obtain ⟨xs, z1, z2⟩ := s.2.2 kk a ds' e1 e2
    exact ⟨xs, by rw [upd_ne (ne_of_none z1 hp)]; exact z1, z2.kq (.new hp)⟩⟩
theorem RsOk.mkNew {K : PySem.W.Frag} {as : List Addr} {H H1 : Hp} {p : Addr} {xs : List V} {ds : List D} (s : SR K as H1 ms) (k1 : Kq as H H1) (hp : H1 p = none) (q : RA K as H1 xs ds) : RsOk K as H (upd H1 p (.lst xs)) (.ref p) (.new ds) :=
  ⟨p, xs, rfl, fresh_back s k1 hp, s.notin hp, upd_same, RA.chg (.new hp) (fun a z => (List.mem_cons.mp z).elim (fun e => .inr (by rw [e]; exact hp)) .inl) _ _ q⟩
theorem RsOk.mkTup {K : PySem.W.Frag} {as : List Addr} {H H1 : Hp} {p : Addr} {xs : List V} {ds : List D} (s : SR K as H1 ms) (hp : H1 p = none) (q : RA K as H1 xs ds) : RsOk K as H (upd H1 p (.tup xs)) (.ref p) (.dat (.tuple ds)) := by
  unfold RsOk R
  exact ⟨p, xs, rfl, .inl ⟨s.notin hp, .inl upd_same⟩, q.kq (.new hp)⟩
theorem ee_tup {rs : List Rs} {ds : List D} {x1} (h : EA S es ρ ms rs ms') (hf : frzA rs = some ds) (hz : ds.length ≤ sizeLine) : EE S (.Tuple es x1 pos) ρ ms (.dat (.tuple ds)) ms' :=
  .of (fun X hX => pe_tup (pa_c hX es)) fun as σ H Q s en k => h as σ H _ s en fun vs H1 k1 s1 q => by
    have q := q.frz hf
    exact ⟨by rw [q.length]; exact hz, fun p hp => k _ _ (k1.trans (.new hp)) (s1.new hp) (.mkTup s1 hp q)⟩
theorem ee_lst {rs : List Rs} {ds : List D} (h : EA S es ρ ms rs ms') (hf : frzA rs = some ds) (hz : ds.length ≤ sizeLine) : EE S (.List es pos) ρ ms (.new ds) ms' :=
  .of (fun X hX => pe_lst (pa_c hX es)) fun as σ H Q s en k => h as σ H _ s en fun vs H1 k1 s1 q => by
    have q := q.frz hf
    refine ⟨by rw [q.length]; exact hz, fun p hp => k _ _ (k1.trans (.new hp)) (s1.new hp) (.mkNew s1 k1.q hp q)⟩
/-- what is thrown away or kept as data -/
theorem ee_frz {d : D} (hf : frz r = some d) (h : EE S e ρ ms r ms') : EE S e ρ ms (.dat d) ms' := fun as σ H Q s en k => h as σ H Q s en fun v H1 k1 s1 q => k v H1 k1 s1 (q.frz hf)

/-! ### reading lists and tuples -/
/-- the list that a result is -/
def lres (ms : MS) : Rs → Option (List D)
  | .dat (.list ds) => some ds
  | .new ds => some ds
  | .mu k => ms[k]?
  | .scr ns => some (ns.map .int)
  | _ => none
theorem ra_ints {K : PySem.W.Frag} {as : List Addr} {H : Hp} : ∀ ns : List Int, RA K as H (ns.map V.int) (ns.map .int)
  | [] => RA.nil
  | n :: ns => RA.cons (by unfold R; rfl) (ra_ints ns)
theorem RsOk.lst {K : PySem.W.Frag} {as : List Addr} {H0 H : Hp} {v : V} {ds : List D} (s : SR K as H ms) (h : RsOk K as H0 H v r) (e : lres ms r = some ds) : ∃ p xs, v = .ref p ∧ SqL K H p xs ∧ RA K as H xs ds := by
  cases r with
  | dat d =>
    cases d <;> try (cases e; done)
    cases e
    unfold RsOk R at h
    obtain ⟨p, xs, e, n, hp, q⟩ := h
    exact ⟨p, xs, e, .inl (.inl hp), q⟩
  | new ds =>
    cases e
    obtain ⟨p, xs, e, n, np, hp, q⟩ := h
    exact ⟨p, xs, e, .inl (.inl hp), RA.sub (fun a z => List.mem_cons_of_mem _ z) q⟩
  | mu k =>
    obtain ⟨p, rfl, hk⟩ := h
    obtain ⟨xs, q1, q2⟩ := s.2.2 k p ds hk e
    exact ⟨p, xs, rfl, .inl (.inl q1), q2⟩
  | scr ns =>
    cases e
    obtain ⟨p, e, q⟩ := h
    exact ⟨p, _, e, q.sq, ra_ints ns⟩
  | ty T => cases e
theorem RsOk.tup {K : PySem.W.Frag} {as : List Addr} {H0 H : Hp} {v : V} {ds : List D} (h : RsOk K as H0 H v (.dat (.tuple ds))) : ∃ p xs, v = .ref p ∧ SqT K H p xs ∧ RA K as H xs ds := by
  unfold RsOk R at h
  obtain ⟨p, xs, e, t, q⟩ := h
  exact ⟨p, xs, e, SqT.sp t, q⟩
theorem RA.atI {K : PySem.W.Frag} {as : List Addr} {H : Hp} {ds : List D} {vs : List V} {d : D} (h : RA K as H vs ds) (e : L2.atI ds i = some d) : ∃ v, L2.atI vs i = some v ∧ R K as H v d := by
  unfold L2.atI at e ⊢
  rw [h.length]
  cases q : ixN ds.length i with
  | none => rw [q] at e; cases e
  | some j =>
    rw [q] at e
    exact h.get e
theorem ee_ixL {ds : List D} {d : D} (hs : ∀ X : Cx, ∀ te tb : TE, PE X a te → PE X b tb → PE X (.Subscript a b pos) (tOp (rIxL X.K) te tb)) (ha : EE S a ρ ms r ms1) (hb : EE S b ρ ms1 (.dat (.int i)) ms2) (hl : lres ms2 r = some ds) (hi : L2.atI ds i = some d) :
    EE S (.Subscript a b pos) ρ ms (.dat d) ms2 :=
  .of (te := tOp (rIxL S.K) (cE S a) (cE S b)) (fun X hX => by have h := hs X _ _ (pe_c hX a) (pe_c hX b); rw [hX.k] at h; exact h) (evt_op ha hb fun as H0 H x y s h1 h2 Q k => by
    obtain ⟨p, xs, rfl, hq, ra⟩ := h1.lst s hl
    obtain ⟨v, e1, q⟩ := ra.atI hi
    unfold RsOk R at h2
    exact ⟨p, xs, i, v, rfl, h2, hq, e1, k v H .refl s q⟩)
theorem ee_ixT {ds : List D} {d : D} (hs : ∀ X : Cx, ∀ te tb : TE, PE X a te → PE X b tb → PE X (.Subscript a b pos) (tOp (rIxT X.K) te tb)) (ha : EE S a ρ ms (.dat (.tuple ds)) ms1) (hb : EE S b ρ ms1 (.dat (.int i)) ms2) (hi : L2.atI ds i = some d) :
    EE S (.Subscript a b pos) ρ ms (.dat d) ms2 :=
  .of (te := tOp (rIxT S.K) (cE S a) (cE S b)) (fun X hX => by have h := hs X _ _ (pe_c hX a) (pe_c hX b); rw [hX.k] at h; exact h) (evt_op ha hb fun as H0 H x y s h1 h2 Q k => by
    obtain ⟨p, xs, rfl, hq, ra⟩ := h1.tup
    obtain ⟨v, e1, q⟩ := ra.atI hi
    unfold RsOk R at h2
    exact ⟨p, xs, i, v, rfl, h2, hq, e1, k v H .refl s q⟩)
/-- parts of a slice -/
def cO (S : Sx) (e : Option Expr) : TO := fun σ H Q => ∃ te : TO, (∀ X, InS S X → PO X e te) ∧ te σ H Q
theorem po_c {X : Cx} (h : InS S X) (e : Option Expr) : PO X e (cO S e) := ⟨fun pins s σ H Q I ⟨te, p, q⟩ => (p X h).run pins s σ H Q I q⟩
def EO (S : Sx) (e : Option Expr) (ρ : Env') (ms : MS) (o : Option Int) : Prop := ∀ (as : List Addr) (σ : L2.St) (H : Hp) (Q : Option Int → Hp → Prop), SR S.K as H ms → EnvOk S.K as H σ ρ →
  (∀ H', Kp (S.T as) H H' → SR S.K as H' ms → Q o H') → cO S e σ H Q
theorem eo_none : EO S none ρ ms none := fun as σ H Q s en k => ⟨tNoPart, fun _ _ => po_none, k H .refl s⟩
theorem eo_some (h : EE S a ρ ms (.dat (.int i)) ms) : EO S (some a) ρ ms (some i) := fun as σ H Q s en k => ⟨tPart (cE S a), fun X hX => po_some (pe_c hX a), h as σ H _ s en fun v H1 k1 s1 q => by
  unfold RsOk R at q
  exact ⟨i, q, k H1 k1 s1⟩⟩
def cutD (xs : List D) (lo hi : Option Int) : List D := (xs.drop (HT.sIx xs.length 0 lo)).take (HT.sIx xs.length xs.length hi - HT.sIx xs.length 0 lo)
theorem RA.cut {K : PySem.W.Frag} {as : List Addr} {H : Hp} {ds : List D} {vs : List V} (h : RA K as H vs ds) (lo hi : Option Int) : RA K as H (cutV vs lo hi) (cutD ds lo hi) := by
  unfold cutV cutD
  rw [h.length]
  exact (h.drop _).take _
theorem evt_sl {rr : V → Option Int → Option Int → Hp → VK → Prop} {te : TE} {lo hi : Option Expr} {x y : Option Int} (he : EVt S te ρ ms r1 ms1) (hl : EO S lo ρ ms1 x) (hh : EO S hi ρ ms1 y)
    (h : ∀ (as : List Addr) (H0 H : Hp) (v : V), SR S.K as H ms1 → RsOk S.K as H0 H v r1 → ∀ Q : VK, (∀ v H', Kp (fun _ => False) H H' → SR S.K as H' ms1 → RsOk S.K as H H' v r2 → Q v H') → rr v x y H Q) : EVt S (tSl rr te (cO S lo) (cO S hi)) ρ ms r2 ms1 := fun as σ H Q s en k =>
  he as σ H _ s en fun v H1 k1 s1 q1 => hl as σ H1 _ s1 (en.kp k1) fun H2 k2 s2 => hh as σ H2 _ s2 (en.kp (k1.trans k2)) fun H3 k3 s3 =>
    h as H H3 v s3 (q1.kp (k2.trans k3)) Q fun v' H4 k4 s4 q4 => k v' H4 (((k1.trans k2).trans k3).trans k4.f) s4 (q4.back' s3 ((k1.trans k2).trans k3))
theorem ee_slL {lo hi : Option Expr} {x y : Option Int} {ds : List D} {p2} (he : EE S e ρ ms r ms1) (hl : EO S lo ρ ms1 x) (hh : EO S hi ρ ms1 y) (hd : lres ms1 r = some ds) : EE S (.Subscript e (.Slice lo hi none p2) pos) ρ ms (.new (cutD ds x y)) ms1 :=
  .of (te := tSl (rSlL S.K) (cE S e) (cO S lo) (cO S hi)) (fun X hX => by have h := pe_slice (p2 := p2) (pos := pos) (sl_list (X := X)) (pe_c hX e) (po_c hX lo) (po_c hX hi); rw [hX.k] at h; exact h)
    (evt_sl he hl hh fun as H0 H v s h1 Q k => by
      obtain ⟨p, xs, rfl, hq, ra⟩ := h1.lst s hd
      exact ⟨p, xs, rfl, hq, fun q hp => k _ _ (.new hp) (s.new hp) (.mkNew s .refl hp (ra.cut x y))⟩)
theorem ee_slT {lo hi : Option Expr} {x y : Option Int} {ds : List D} {p2} (he : EE S e ρ ms (.dat (.tuple ds)) ms1) (hl : EO S lo ρ ms1 x) (hh : EO S hi ρ ms1 y) : EE S (.Subscript e (.Slice lo hi none p2) pos) ρ ms (.dat (.tuple (cutD ds x y))) ms1 :=
  .of (te := tSl (rSlA S.K) (cE S e) (cO S lo) (cO S hi)) (fun X hX => by have h := pe_slice (p2 := p2) (pos := pos) (sl_tupA (X := X)) (pe_c hX e) (po_c hX lo) (po_c hX hi); rw [hX.k] at h; exact h)
    (evt_sl he hl hh fun as H0 H v s h1 Q k => by
      have h1' := h1
      obtain ⟨p, xs, rfl, hq, ra⟩ := h1.tup
      refine ⟨p, xs, rfl, hq, fun hw => ?_, fun _ q hp => k _ _ (.new hp) (s.new hp) (.mkTup s hp (ra.cut x y))⟩
      have e : cutD ds x y = ds := by
        unfold cutD
        rw [ra.length] at hw
        rw [hw.1, hw.2]
        simp
      refine k _ H .refl s ?_
      rw [e]
      exact h1')
end
end Abs
namespace Abs
open PySem PySem.Spec PyProof.Rows L2
section
variable {S : Sx} {e a b c : Expr} {es : List Expr} {ρ : Env'} {ms ms' ms1 ms2 ms3 : MS} {r r1 r2 r3 : Rs} {rs : List Rs} {pos : Pos} {i j : Int} {x : Str} {p : Pos}

/-! ### built-in functions -/
def CrOk (S : Sx) (r : List V → Hp → VK → Prop) (rs : List Rs) (ms : MS) (r3 : Rs) : Prop := ∀ (as : List Addr) (H0 H : Hp) (vs : List V), SR S.K as H ms → RsA S.K as H0 H vs rs →
  ∀ Q : VK, (∀ v H', Kp (fun _ => False) H H' → SR S.K as H' ms → RsOk S.K as H H' v r3 → Q v H') → r vs H Q
theorem evt_cb {rr : List V → Hp → VK → Prop} {ta : TA} (ha : EVa S ta ρ ms rs ms1) (h : CrOk S rr rs ms1 r3) : EVt S (tCB rr ta) ρ ms r3 ms1 := fun as σ H Q s en k =>
  ha as σ H _ s en fun vs H1 k1 s1 q1 => h as H H1 vs s1 q1 Q fun v H2 k2 s2 q2 => k v H2 (k1.trans k2.f) s2 (q2.back' s1 k1)
theorem ee_cb {id : String} {rr : List V → Hp → VK → Prop} (hc : ∀ X, InS S X → CallR X (.builtin id) rr) (hm : S.mg x = none) (hg : S.sc.names.lookup x = some .globalImplicit) (hv : bootBuiltins x = some (.builtin id)) (h : CrOk S rr rs ms1 r3)
    (ha : EA S (e :: es) ρ ms rs ms1) (hn : x ≠ "__name__" := by decide) (hdb : (x == ("__debug__" : Str)) = false := by decide)
    (he : ∀ env, starEach (e :: es) env = (false, eval e env) :: starEach es env := by intro _; rfl) (hpl : ∀ env, (backTo pos (starEach es env)).any (·.1) = false := by intro _; rfl) : EE S (.Call (.Name x p) (e :: es) [] pos) ρ ms r3 ms1 :=
  .of (fun X hX => pe_callB (hc X hX) (hX.gl hg) (by rw [hX.mg]; exact hm) hv (pa_c hX _) hn hdb (he _) (hpl _)) (evt_cb ha h)
theorem ee_cty {T : String} {rr : List V → Hp → VK → Prop} (hc : ∀ X, InS S X → CallR X (.type T) rr) (hm : S.mg x = none) (hg : S.sc.names.lookup x = some .globalImplicit) (hv : bootBuiltins x = some (.type T)) (h : CrOk S rr rs ms1 r3)
    (ha : EA S (e :: es) ρ ms rs ms1) (hn : x ≠ "__name__" := by decide) (hdb : (x == ("__debug__" : Str)) = false := by decide)
    (he : ∀ env, starEach (e :: es) env = (false, eval e env) :: starEach es env := by intro _; rfl) (hpl : ∀ env, (backTo pos (starEach es env)).any (·.1) = false := by intro _; rfl) : EE S (.Call (.Name x p) (e :: es) [] pos) ρ ms r3 ms1 :=
  .of (fun X hX => pe_callTy (hc X hX) (hX.gl hg) (by rw [hX.mg]; exact hm) hv (pa_c hX _) hn hdb (he _) (hpl _)) (evt_cb ha h)
theorem rs1 {K : PySem.W.Frag} {as : List Addr} {H0 H : Hp} {vs : List V} (h : RsA K as H0 H vs [r]) : ∃ v, vs = [v] ∧ RsOk K as H0 H v r := by
  obtain ⟨v, u, e, q, e2⟩ := h
  have e2 : u = [] := e2
  subst e2
  exact ⟨v, e, q⟩
theorem rs2 {K : PySem.W.Frag} {as : List Addr} {H0 H : Hp} {vs : List V} (h : RsA K as H0 H vs [r1, r2]) : ∃ v u, vs = [v, u] ∧ RsOk K as H0 H v r1 ∧ RsOk K as H0 H u r2 := by
  obtain ⟨v, u, e, q, h2⟩ := h
  obtain ⟨w, rfl, q2⟩ := rs1 h2
  exact ⟨v, w, e, q, q2⟩
section
theorem cr_len {ds : List D} (hl : lres ms r = some ds) : CrOk S (fun xs H Q => ∃ p ys, xs = [.ref p] ∧ (SqL S.K H p ys ∨ SqT S.K H p ys) ∧ Q (.int ys.length) H) [r] ms (.dat (.int (ds.length : Int))) := fun as H0 H vs s h Q k => by
  obtain ⟨v, rfl, q⟩ := rs1 h
  obtain ⟨p, xs, rfl, hq, ra⟩ := q.lst s hl
  exact ⟨p, xs, rfl, .inl hq, by rw [ra.length]; exact k _ H .refl s rInt⟩
theorem cr_lenT {ds : List D} : CrOk S (fun xs H Q => ∃ p ys, xs = [.ref p] ∧ (SqL S.K H p ys ∨ SqT S.K H p ys) ∧ Q (.int ys.length) H) [.dat (.tuple ds)] ms (.dat (.int (ds.length : Int))) := fun as H0 H vs s h Q k => by
  obtain ⟨v, rfl, q⟩ := rs1 h
  obtain ⟨p, xs, rfl, hq, ra⟩ := q.tup
  exact ⟨p, xs, rfl, .inr hq, by rw [ra.length]; exact k _ H .refl s rInt⟩
theorem cr_abs : CrOk S (fun xs H Q => ∃ i, xs = [.int i] ∧ Q (.int (if i < 0 then -i else i)) H) [.dat (.int i)] ms (.dat (.int (i.natAbs : Int))) := fun as H0 H vs s h Q k => by
  obtain ⟨v, rfl, q⟩ := rs1 h
  have e : (if i < 0 then -i else i) = (i.natAbs : Int) := by split <;> omega
  exact ⟨i, by rw [q.int], by rw [e]; exact k _ H .refl s rInt⟩
theorem cr_max2' : CrOk S (fun xs H Q => ∃ i j, xs = [.int i, .int j] ∧ Q (.int (if j > i then j else i)) H) [.dat (.int i), .dat (.int j)] ms (.dat (.int (max i j))) := fun as H0 H vs s h Q k => by
  obtain ⟨v, u, rfl, q1, q2⟩ := rs2 h
  have e : (if j > i then j else i) = max i j := by rw [Int.max_def]; split <;> split <;> omega
  exact ⟨i, j, by rw [q1.int, q2.int], by rw [e]; exact k _ H .refl s rInt⟩
theorem cr_min2' : CrOk S (fun xs H Q => ∃ i j, xs = [.int i, .int j] ∧ Q (.int (if j < i then j else i)) H) [.dat (.int i), .dat (.int j)] ms (.dat (.int (min i j))) := fun as H0 H vs s h Q k => by
  obtain ⟨v, u, rfl, q1, q2⟩ := rs2 h
  have e : (if j < i then j else i) = min i j := by rw [Int.min_def]; split <;> split <;> omega
  exact ⟨i, j, by rw [q1.int, q2.int], by rw [e]; exact k _ H .refl s rInt⟩
theorem cr_intI : CrOk S (fun xs H Q => (∃ i, xs = [.int i] ∧ Q (.int i) H) ∨ ∃ k, xs = [.bl k] ∧ Q (.int (if k then 1 else 0)) H) [.dat (.int i)] ms (.dat (.int i)) := fun as H0 H vs s h Q k => by
  obtain ⟨v, rfl, q⟩ := rs1 h
  exact .inl ⟨i, by rw [q.int], k _ H .refl s rInt⟩
theorem cr_intB {t : Bool} : CrOk S (fun xs H Q => (∃ i, xs = [.int i] ∧ Q (.int i) H) ∨ ∃ k, xs = [.bl k] ∧ Q (.int (if k then 1 else 0)) H) [.dat (.bool t)] ms (.dat (.int (if t then 1 else 0))) := fun as H0 H vs s h Q k => by
  obtain ⟨v, rfl, q⟩ := rs1 h
  exact .inr ⟨t, by rw [q.bool], k _ H .refl s rInt⟩
theorem cr_sum' {ns : List Int} (hl : lres ms r = some (ns.map .int)) : CrOk S (rSum S.K) [r] ms (.dat (.int ns.sum)) := fun as H0 H vs s h Q k => by
  obtain ⟨v, rfl, q⟩ := rs1 h
  obtain ⟨p, xs, rfl, hq, ra⟩ := q.lst s hl
  rw [ra.ints] at hq
  exact ⟨p, ns, rfl, hq, k _ H .refl s rInt⟩
theorem cr_all' {bs : List Bool} (hl : lres ms r = some (bs.map .bool)) : CrOk S (rAll S.K) [r] ms (.dat (.bool (bs.all id))) := fun as H0 H vs s h Q k => by
  obtain ⟨v, rfl, q⟩ := rs1 h
  obtain ⟨p, xs, rfl, hq, ra⟩ := q.lst s hl
  rw [ra.bools] at hq
  exact ⟨p, bs, rfl, hq, k _ H .refl s rBool⟩
theorem cr_any' {bs : List Bool} (hl : lres ms r = some (bs.map .bool)) : CrOk S (rAny S.K) [r] ms (.dat (.bool (bs.any id))) := fun as H0 H vs s h Q k => by
  obtain ⟨v, rfl, q⟩ := rs1 h
  obtain ⟨p, xs, rfl, hq, ra⟩ := q.lst s hl
  rw [ra.bools] at hq
  exact ⟨p, bs, rfl, hq, k _ H .refl s rBool⟩
theorem cr_maxL {ns : List Int} {m : Int} (hl : lres ms r = some (ns.map .int)) (hm : m ∈ ns) (hx : ∀ y ∈ ns, y ≤ m) : CrOk S (rMax S.K) [r] ms (.dat (.int m)) := fun as H0 H vs s h Q k => by
  obtain ⟨v, rfl, q⟩ := rs1 h
  obtain ⟨p, xs, rfl, hq, ra⟩ := q.lst s hl
  rw [ra.ints] at hq
  refine ⟨p, ns, rfl, hq, List.length_pos_of_mem hm, fun m' h1 h2 => ?_⟩
  have e : m' = m := Int.le_antisymm (hx m' h1) (h2 m hm)
  rw [e]; exact k _ H .refl s rInt
theorem cr_minL {ns : List Int} {m : Int} (hl : lres ms r = some (ns.map .int)) (hm : m ∈ ns) (hx : ∀ y ∈ ns, m ≤ y) : CrOk S (rMin S.K) [r] ms (.dat (.int m)) := fun as H0 H vs s h Q k => by
  obtain ⟨v, rfl, q⟩ := rs1 h
  obtain ⟨p, xs, rfl, hq, ra⟩ := q.lst s hl
  rw [ra.ints] at hq
  refine ⟨p, ns, rfl, hq, List.length_pos_of_mem hm, fun m' h1 h2 => ?_⟩
  have e : m' = m := Int.le_antisymm (h2 m hm) (hx m' h1)
  rw [e]; exact k _ H .refl s rInt
theorem cr_tupL {ds : List D} (hl : lres ms r = some ds) : CrOk S (fun xs H Q => ∃ p ys, xs = [.ref p] ∧ ((SqL S.K H p ys ∧ ∀ l, H l = none → Q (.ref l) (upd H l (.tup ys))) ∨ (SqT S.K H p ys ∧ Q (.ref p) H))) [r] ms (.dat (.tuple ds)) := fun as H0 H vs s h Q k => by
  obtain ⟨v, rfl, q⟩ := rs1 h
  obtain ⟨p, xs, rfl, hq, ra⟩ := q.lst s hl
  exact ⟨p, xs, rfl, .inl ⟨hq, fun l hl => k _ _ (.new hl) (s.new hl) (.mkTup s hl ra)⟩⟩
theorem cr_tupT {ds : List D} : CrOk S (fun xs H Q => ∃ p ys, xs = [.ref p] ∧ ((SqL S.K H p ys ∧ ∀ l, H l = none → Q (.ref l) (upd H l (.tup ys))) ∨ (SqT S.K H p ys ∧ Q (.ref p) H))) [.dat (.tuple ds)] ms (.dat (.tuple ds)) := fun as H0 H vs s h Q k => by
  obtain ⟨v, rfl, q⟩ := rs1 h
  have q' := q
  obtain ⟨p, xs, rfl, hq, ra⟩ := q.tup
  exact ⟨p, xs, rfl, .inr ⟨hq, k _ H .refl s q'⟩⟩
theorem cr_listL {ds : List D} (hl : lres ms r = some ds) : CrOk S (fun xs H Q => ∃ p ys, xs = [.ref p] ∧ (SqL S.K H p ys ∨ SqT S.K H p ys) ∧ ∀ l, H l = none → Q (.ref l) (upd H l (.lst ys))) [r] ms (.new ds) := fun as H0 H vs s h Q k => by
  obtain ⟨v, rfl, q⟩ := rs1 h
  obtain ⟨p, xs, rfl, hq, ra⟩ := q.lst s hl
  exact ⟨p, xs, rfl, .inl hq, fun l hl => k _ _ (.new hl) (s.new hl) (.mkNew s .refl hl ra)⟩
theorem cr_listT {ds : List D} : CrOk S (fun xs H Q => ∃ p ys, xs = [.ref p] ∧ (SqL S.K H p ys ∨ SqT S.K H p ys) ∧ ∀ l, H l = none → Q (.ref l) (upd H l (.lst ys))) [.dat (.tuple ds)] ms (.new ds) := fun as H0 H vs s h Q k => by
  obtain ⟨v, rfl, q⟩ := rs1 h
  obtain ⟨p, xs, rfl, hq, ra⟩ := q.tup
  exact ⟨p, xs, rfl, .inr hq, fun l hl => k _ _ (.new hl) (s.new hl) (.mkNew s .refl hl ra)⟩
end
variable {d : D} {ds : List D} {t : Bool}
/-- types as values; isinstance -/
theorem ee_ty {T : String} (hm : S.mg x = none) (hg : S.sc.names.lookup x = some .globalImplicit) (hv : bootBuiltins x = some (.type T)) (hn : x ≠ "__name__" := by decide) (hdb : (x == ("__debug__" : Str)) = false := by decide) : EE S (.Name x pos) ρ ms (.ty T) ms :=
  .of (te := tC (.ty T)) (fun X hX => pe_bltn (hX.gl hg) (by rw [hX.mg]; exact hm) hv rfl hn hdb) fun as σ H Q s en k => k _ H .refl s rfl
def tyD : D → String
  | .none => "NoneType" | .bool _ => "bool" | .int _ => "int" | .str _ => "str" | .list _ => "list" | .tuple _ => "tuple" | .dict _ => "dict"
theorem R.ty {K : PySem.W.Frag} {as : List Addr} {H : Hp} {v : V} : ∀ {d : D}, R K as H v d → TyX K H v (.type (tyD d))
  | .none, h => by unfold R at h; subst h; exact .base .non
  | .bool b, h => by unfold R at h; subst h; exact .base (.bl b)
  | .int b, h => by unfold R at h; subst h; exact .base (.int b)
  | .str b, h => by unfold R at h; subst h; exact .base (.str b)
  | .list ds, h => by
    unfold R at h
    obtain ⟨a, xs, rfl, n, hx, q⟩ := h
    exact .base (.lst hx)
  | .tuple ds, h => by
    unfold R at h
    obtain ⟨a, xs, rfl, t, q⟩ := h
    rcases t with ⟨n, (t | ⟨o, t⟩)⟩ | ⟨o, its, n, e1, e2, _⟩
    · exact .base (.tup t)
    · exact .fTuple t
    · exact .kTuple e1 e2
  | .dict _, h => by unfold R at h; exact h.elim
theorem cr_isi {T : String} (h : PySem.W.kitOne S.K (.type (tyD d)) (.type T) = some t) (hc : ClsV (.ty T) (.type T)) : CrOk S (rIsi S.K) [.dat d, .ty T] ms (.dat (.bool t)) := fun as H0 H vs s q Q k => by
  obtain ⟨v, u, rfl, q1, q2⟩ := rs2 q
  have q2 : u = .ty T := q2
  have q1 : R S.K as H v d := q1
  exact ⟨v, u, .type (tyD d), .type T, t, rfl, by rw [q2]; exact hc, q1.ty, h, k _ H .refl s rBool⟩
/-- isinstance by a table -/
def isi (T : String) : D → Bool
  | .bool _ => T == "bool" || T == "int" | .int _ => T == "int" | .str _ => T == "str" | .list _ => T == "list" | .tuple _ => T == "tuple" | _ => false
theorem isi_int {K : PySem.W.Frag} : ∀ d : D, PySem.W.kitOne K (.type (tyD d)) (.type "int") = some (isi "int" d)
  | .none => kit_ty (show kitB "NoneType" "int" = some false by with_unfolding_all decide +kernel)
  | .bool _ => kit_ty (show kitB "bool" "int" = some true by with_unfolding_all decide +kernel)
  | .int _ => kit_ty (show kitB "int" "int" = some true by with_unfolding_all decide +kernel)
  | .str _ => kit_ty (show kitB "str" "int" = some false by with_unfolding_all decide +kernel)
  | .list _ => kit_ty (show kitB "list" "int" = some false by with_unfolding_all decide +kernel)
  | .tuple _ => kit_ty (show kitB "tuple" "int" = some false by with_unfolding_all decide +kernel)
  | .dict _ => kit_ty (show kitB "dict" "int" = some false by with_unfolding_all decide +kernel)
theorem isi_bool {K : PySem.W.Frag} : ∀ d : D, PySem.W.kitOne K (.type (tyD d)) (.type "bool") = some (isi "bool" d)
  | .none => kit_ty (show kitB "NoneType" "bool" = some false by with_unfolding_all decide +kernel)
  | .bool _ => kit_ty (show kitB "bool" "bool" = some true by with_unfolding_all decide +kernel)
  | .int _ => kit_ty (show kitB "int" "bool" = some false by with_unfolding_all decide +kernel)
  | .str _ => kit_ty (show kitB "str" "bool" = some false by with_unfolding_all decide +kernel)
  | .list _ => kit_ty (show kitB "list" "bool" = some false by with_unfolding_all decide +kernel)
  | .tuple _ => kit_ty (show kitB "tuple" "bool" = some false by with_unfolding_all decide +kernel)
  | .dict _ => kit_ty (show kitB "dict" "bool" = some false by with_unfolding_all decide +kernel)
theorem isi_str {K : PySem.W.Frag} : ∀ d : D, PySem.W.kitOne K (.type (tyD d)) (.type "str") = some (isi "str" d)
  | .none => kit_ty (show kitB "NoneType" "str" = some false by with_unfolding_all decide +kernel)
  | .bool _ => kit_ty (show kitB "bool" "str" = some false by with_unfolding_all decide +kernel)
  | .int _ => kit_ty (show kitB "int" "str" = some false by with_unfolding_all decide +kernel)
  | .str _ => kit_ty (show kitB "str" "str" = some true by with_unfolding_all decide +kernel)
  | .list _ => kit_ty (show kitB "list" "str" = some false by with_unfolding_all decide +kernel)
  | .tuple _ => kit_ty (show kitB "tuple" "str" = some false by with_unfolding_all decide +kernel)
  | .dict _ => kit_ty (show kitB "dict" "str" = some false by with_unfolding_all decide +kernel)
theorem isi_tuple {K : PySem.W.Frag} : ∀ d : D, PySem.W.kitOne K (.type (tyD d)) (.type "tuple") = some (isi "tuple" d)
  | .none => kit_ty (show kitB "NoneType" "tuple" = some false by with_unfolding_all decide +kernel)
  | .bool _ => kit_ty (show kitB "bool" "tuple" = some false by with_unfolding_all decide +kernel)
  | .int _ => kit_ty (show kitB "int" "tuple" = some false by with_unfolding_all decide +kernel)
  | .str _ => kit_ty (show kitB "str" "tuple" = some false by with_unfolding_all decide +kernel)
  | .list _ => kit_ty (show kitB "list" "tuple" = some false by with_unfolding_all decide +kernel)
  | .tuple _ => kit_ty (show kitB "tuple" "tuple" = some true by with_unfolding_all decide +kernel)
  | .dict _ => kit_ty (show kitB "dict" "tuple" = some false by with_unfolding_all decide +kernel)
theorem isi_list {K : PySem.W.Frag} : ∀ d : D, PySem.W.kitOne K (.type (tyD d)) (.type "list") = some (isi "list" d)
  | .none => kit_ty (show kitB "NoneType" "list" = some false by with_unfolding_all decide +kernel)
  | .bool _ => kit_ty (show kitB "bool" "list" = some false by with_unfolding_all decide +kernel)
  | .int _ => kit_ty (show kitB "int" "list" = some false by with_unfolding_all decide +kernel)
  | .str _ => kit_ty (show kitB "str" "list" = some false by with_unfolding_all decide +kernel)
  | .list _ => kit_ty (show kitB "list" "list" = some true by with_unfolding_all decide +kernel)
  | .tuple _ => kit_ty (show kitB "tuple" "list" = some false by with_unfolding_all decide +kernel)
  | .dict _ => kit_ty (show kitB "dict" "list" = some false by with_unfolding_all decide +kernel)

/-! ### own defs -/
def arg : Rs → Rs
  | .new ds => .dat (.list ds)
  | r => r
theorem RsOk.arg {K : PySem.W.Frag} {as : List Addr} {H0 H : Hp} {v : V} (h : RsOk K as H0 H v r) : RsOk K as H H v (arg r) := by
  cases r with
  | new ds => exact h.frz (r := .new ds) rfl
  | dat d => exact h
  | mu k => exact h
  | scr ns => exact h
  | ty T => exact h
theorem RsA.arg {K : PySem.W.Frag} {as : List Addr} {H0 H : Hp} : ∀ {rs : List Rs} {vs : List V}, RsA K as H0 H vs rs → RsA K as H H vs (rs.map Abs.arg)
  | [], _, h => h
  | r :: rs, _, ⟨v, u, e, h1, h2⟩ => ⟨v, u, e, h1.arg, RsA.arg h2⟩
theorem RsA.length {K : PySem.W.Frag} {as : List Addr} {H0 H : Hp} : ∀ {rs : List Rs} {vs : List V}, RsA K as H0 H vs rs → vs.length = rs.length
  | [], vs, h => by
    have h : vs = [] := h
    rw [h]; rfl
  | r :: rs, _, ⟨v, u, e, h1, h2⟩ => by rw [e, List.length_cons, List.length_cons, RsA.length h2]
/-- what a def does with results and lists -/
abbrev Rel := List Rs → MS → Rs → MS → Prop
def spR (K : PySem.W.Frag) (F : Rel) : Sp := fun vs H Q _ => ∃ (as : List Addr) (ms : MS) (rs : List Rs) (r : Rs) (ms' : MS), SR K as H ms ∧ RsA K as H H vs rs ∧ F rs ms r ms' ∧
  ∀ v H', Kp (fun b => ∃ j : Nat, as[j]? = some b ∧ Rs.mu j ∈ rs) H H' → SR K as H' ms' → RsOk K as H H' v r → Q v H'
structure Kn (P : Program) (w : World) (K : PySem.W.Frag) (mg : Str → Option Value) (base : Heap) (k : Nat) (x : Str) (F : Rel) : Prop where
  ex : ∃ (f : Addr), FnR P w K mg base CX0 k f (spR K F) ∧ mg x = some (.ref f) ∧ PySem.W.keepIn K (.ref f) = true
abbrev KnS (S : Sx) (k : Nat) (x : Str) (F : Rel) : Prop := Kn S.P S.w S.K S.mg S.base k x F
theorem pe_callR {X : Cx} {CX : CXT} {k : Nat} {f : Addr} {sp : Sp} {E : XK} {t : TA} (F : FnR X.prog X.w X.K X.mg X.base CX k f sp) (hr : Room k X.A) (hg : Gl X x) (hm : X.mg x = some (.ref f)) (hk : PySem.W.keepIn X.K (.ref f) = true) (hx : Passes CX X E)
    (ha : PA X (e :: es) t) (hdb : (x == ("__debug__" : Str)) = false) (he : starEach (e :: es) X.env = (false, eval e X.env) :: starEach es X.env) (hpl : (backTo pos (starEach es X.env)).any (·.1) = false) :
    PE X (.Call (.Name x p) (e :: es) [] pos) (fun σ H Q => t σ H fun vs H1 => sp vs H1 Q E) := by
  refine ⟨fun pins s σ H Q I h => ?_⟩
  refine wpAny_Call_Name_kw (ld_glob I hg hm ?_ hdb)
  refine PySem.W.callWith_K (h₀ := X.base) I.ok.mod.kin hk (thn (ha.run pos pins s σ H _ I h) fun us s1 ⟨vs, H1, I1, r, q⟩ => ⟨I1.kIn, ?_⟩) he hpl
  exact wpAny_call (run_fnR F hr hx I1 r q)
theorem pe_callR0 {X : Cx} {CX : CXT} {k : Nat} {f : Addr} {sp : Sp} {E : XK} (F : FnR X.prog X.w X.K X.mg X.base CX k f sp) (hr : Room k X.A) (hg : Gl X x) (hm : X.mg x = some (.ref f)) (hk : PySem.W.keepIn X.K (.ref f) = true) (hx : Passes CX X E)
    (hdb : (x == ("__debug__" : Str)) = false) : PE X (.Call (.Name x p) [] [] pos) (fun σ H Q => sp [] H Q E) := by
  refine ⟨fun pins s σ H Q I h => ?_⟩
  refine wpAny_Call_Name_kw (ld_glob I hg hm ?_ hdb)
  exact PySem.W.callWith_K0 I.kIn hk (wpAny_call (run_fnR (us := []) F hr hx I .nil h))
theorem ee_call {k : Nat} {F : Rel} (Kf : KnS S k x F) (hk : k ≤ S.k) (hg : S.sc.names.lookup x = some .globalImplicit) (ha : EA S (e :: es) ρ ms rs ms1) (hF : F (rs.map arg) ms1 r ms2) (ht : ∀ j, Rs.mu j ∈ rs.map arg → S.n0 ≤ j ∨ S.tch j = true)
    (hd : (x == ("__debug__" : Str)) = false := by decide) (he : ∀ env, starEach (e :: es) env = (false, eval e env) :: starEach es env := by intro _; rfl) (hpl : ∀ env, (backTo pos (starEach es env)).any (·.1) = false := by intro _; rfl) :
    EE S (.Call (.Name x p) (e :: es) [] pos) ρ ms r ms2 := by
  obtain ⟨f, F1, hm, hkp⟩ := Kf.ex
  refine .of (te := fun σ H Q => cA S (e :: es) σ H fun vs H1 => spR S.K F vs H1 Q E0) (fun X hX => ?_) fun as σ H Q s en kk => ha as σ H _ s en fun vs H1 k1 s1 q1 => ?_
  · refine pe_callR (k := k) (f := f) (CX := CX0) ?_ (hX.room.mono hk) (hX.gl hg) (by rw [hX.mg]; exact hm) (by rw [hX.k]; exact hkp) pass0 (pa_c hX _) (by assumption) (he _) (hpl _)
    rw [hX.p, hX.w, hX.k, hX.mg, hX.base]
    exact F1
  · exact ⟨as, ms1, rs.map arg, r, ms2, s1, q1.arg, hF, fun v H2 k2 s2 q2 => kk v H2 (k1.trans fun b o n e => k2 b o (fun ⟨j, z, w⟩ => n ⟨j, z, ht j w⟩) e) s2 (q2.back' s1 k1)⟩
theorem ee_call0 {k : Nat} {F : Rel} (Kf : KnS S k x F) (hk : k ≤ S.k) (hg : S.sc.names.lookup x = some .globalImplicit) (hF : F [] ms r ms2) (hd : (x == ("__debug__" : Str)) = false := by decide) : EE S (.Call (.Name x p) [] [] pos) ρ ms r ms2 := by
  obtain ⟨f, F1, hm, hkp⟩ := Kf.ex
  refine .of (te := fun σ H Q => spR S.K F [] H Q E0) (fun X hX => ?_) fun as σ H Q s en kk => ?_
  · refine pe_callR0 (k := k) (f := f) (CX := CX0) ?_ (hX.room.mono hk) (hX.gl hg) (by rw [hX.mg]; exact hm) (by rw [hX.k]; exact hkp) pass0 (by assumption)
    rw [hX.p, hX.w, hX.k, hX.mg, hX.base]
    exact F1
  · exact ⟨as, ms, [], r, ms2, s, rfl, hF, fun v H2 k2 s2 q2 => kk v H2 (fun b o n e => k2 b o (fun ⟨j, z, w⟩ => by simp at w) e) s2 q2⟩
end
end Abs
namespace Abs
open PySem PySem.Spec PyProof.Rows L2

/-! ### statements -/
inductive Out where
  | nx (ρ : Env') (ms : MS) | rt (r : Rs) (ms : MS) | bk (ρ : Env') (ms : MS) | ct (ρ : Env') (ms : MS)
def Gr (S : Sx) (as : List Addr) (H : Hp) (as' : List Addr) (H' : Hp) : Prop := ∃ l, as' = as ++ l ∧ (∀ p ∈ l, H p = none) ∧ Kp (S.T as) H H'
def OutOk (S : Sx) (as : List Addr) (H : Hp) (D : Ends) : Out → Prop
  | .nx ρ ms => ∀ as' σ' H', Gr S as H as' H' → SR S.K as' H' ms → EnvOk S.K as' H' σ' ρ → D.nx σ' H'
  | .bk ρ ms => ∀ as' σ' H', Gr S as H as' H' → SR S.K as' H' ms → EnvOk S.K as' H' σ' ρ → D.bk σ' H'
  | .ct ρ ms => ∀ as' σ' H', Gr S as H as' H' → SR S.K as' H' ms → EnvOk S.K as' H' σ' ρ → D.ct σ' H'
  | .rt r ms => ∀ as' v H', Gr S as H as' H' → SR S.K as' H' ms → RsOk S.K as' H H' v r → D.rt v H'
def SSt (S : Sx) (ts : TS) (ρ : Env') (ms : MS) (o : Out) : Prop := ∀ (as : List Addr) (σ : L2.St) (H : Hp) (D : Ends), SR S.K as H ms → EnvOk S.K as H σ ρ → OutOk S as H D o → ts D σ H
def SS (S : Sx) (st : Stmt) (ρ : Env') (ms : MS) (o : Out) : Prop := SSt S (cS S st) ρ ms o
def SSs (S : Sx) (st : List Stmt) (ρ : Env') (ms : MS) (o : Out) : Prop := SSt S (cSs S st) ρ ms o
theorem Gr.refl {S : Sx} {as : List Addr} {H : Hp} : Gr S as H as H := ⟨[], by simp, fun _ h => by simp at h, .refl⟩
theorem Gr.of {S : Sx} {as : List Addr} {H H' : Hp} (k : Kp (S.T as) H H') : Gr S as H as H' := ⟨[], by simp, fun _ h => by simp at h, k⟩
section
variable {S : Sx} {K : PySem.W.Frag} {as as1 as2 : List Addr} {H H1 H2 H' : Hp} {ms ms1 ms2 ms3 ms' : MS} {ρ ρ1 ρ2 ρ' : Env'} {σ : L2.St} {e a b c : Expr} {r r' : Rs} {o : Out} {st : Stmt} {rest : List Stmt} {pos : Pos} {t : Bool} {i : Nat} {x : Str} {En : Ends}
theorem Sx.T_app {as l : List Addr} {b : Addr} (h : S.T (as ++ l) b) : S.T as b ∨ b ∈ l := by
  obtain ⟨j, e, w⟩ := h
  by_cases hj : j < as.length
  · rw [List.getElem?_append_left hj] at e
    exact .inl ⟨j, e, w⟩
  · rw [List.getElem?_append_right (by omega)] at e
    exact .inr (List.mem_of_getElem? e)
theorem Gr.trans (s0 : SR K as H ms) (s1 : SR K as1 H1 ms1) (g : Gr S as H as1 H1) (g2 : Gr S as1 H1 as2 H2) : Gr S as H as2 H2 := by
  obtain ⟨l, rfl, n, k⟩ := g
  obtain ⟨l2, rfl, n2, k2⟩ := g2
  refine ⟨l ++ l2, by simp, fun p hp => ?_, fun b o nb e => ?_⟩
  · rcases List.mem_append.mp hp with z | z
    · exact n p z
    · cases q : H p with
      | none => rfl
      | some o =>
        exfalso
        have h1 : p ∉ as ++ l := s1.notin (n2 p z)
        have := k.q p o (fun w => h1 (List.mem_append_left _ w)) q
        rw [n2 p z] at this
        cases this
  · refine k2 b o (fun z => ?_) (k b o nb e)
    rcases Sx.T_app z with z | z
    · exact nb z
    · rw [n b z] at e; cases e
theorem RsOk.gback {v : V} (s0 : SR K as H ms) (s1 : SR K as1 H1 ms1) (g : Gr S as H as1 H1) (h : RsOk K as2 H1 H' v r) : RsOk K as2 H H' v r := by
  obtain ⟨l, rfl, n, k⟩ := g
  cases r with
  | new ds =>
    obtain ⟨p, xs, e, n1, q⟩ := h
    refine ⟨p, xs, e, ?_, q⟩
    cases q : H p with
    | none => rfl
    | some o =>
      exfalso
      have h1 : p ∉ as ++ l := s1.notin n1
      have := k.q p o (fun w => h1 (List.mem_append_left _ w)) q
      rw [n1] at this
      cases this
  | dat d => exact h
  | mu k => exact h
  | scr ns => exact h
  | ty T => exact h
/-- an outcome seen from further back -/
theorem OutOk.back (s0 : SR S.K as H ms) (s1 : SR S.K as1 H1 ms1) (g : Gr S as H as1 H1) (h : OutOk S as H En o) : OutOk S as1 H1 En o := by
  cases o with
  | nx ρ m => exact fun as' σ' H' g' s' e' => h as' σ' H' (g.trans s0 s1 g') s' e'
  | bk ρ m => exact fun as' σ' H' g' s' e' => h as' σ' H' (g.trans s0 s1 g') s' e'
  | ct ρ m => exact fun as' σ' H' g' s' e' => h as' σ' H' (g.trans s0 s1 g') s' e'
  | rt r m => exact fun as' v H' g' s' q' => h as' v H' (g.trans s0 s1 g') s' (q'.gback s0 s1 g)
theorem SS.of {ts : TS} (p : ∀ X, InS S X → PS X st ts) (h : SSt S ts ρ ms o) : SS S st ρ ms o := fun as σ H D s en k => ⟨ts, p, h as σ H D s en k⟩
theorem SSs.of {sts : List Stmt} {ts : TS} (p : ∀ X, InS S X → PSs X sts ts) (h : SSt S ts ρ ms o) : SSs S sts ρ ms o := fun as σ H D s en k => ⟨ts, p, h as σ H D s en k⟩
theorem ss_nil : SSs S [] ρ ms (.nx ρ ms) := .of (fun _ _ => pss_nil) fun as σ H D s en k => k as σ H .refl s en
theorem ss_cons (h1 : SS S st ρ ms (.nx ρ1 ms1)) (h2 : SSs S rest ρ1 ms1 o) : SSs S (st :: rest) ρ ms o :=
  .of (fun X hX => pss_cons (ps_c hX st) (pss_c hX rest)) fun as σ H D s en k => h1 as σ H { D with nx := cSs S rest D } s en fun as1 σ1 H1 g1 s1 en1 => h2 as1 σ1 H1 D s1 en1 (k.back s s1 g1)
def Out.isNx : Out → Bool
  | .nx _ _ => true
  | _ => false
/-- the rest is not reached -/
theorem ss_out (h1 : SS S st ρ ms o) (h : o.isNx = false) : SSs S (st :: rest) ρ ms o :=
  .of (fun X hX => pss_cons (ps_c hX st) (pss_c hX rest)) fun as σ H D s en k => h1 as σ H { D with nx := cSs S rest D } s en (by
    cases o with
    | nx _ _ => cases h
    | rt _ _ => exact k
    | bk _ _ => exact k
    | ct _ _ => exact k)
theorem ss_one (h1 : SS S st ρ ms o) : SSs S [st] ρ ms o := .of (fun X hX => pss_one (ps_c hX st)) fun as σ H D s en k => h1 as σ H D s en k
theorem ss_ret (h : EE S e ρ ms r ms') : SS S (.Return (some e) pos) ρ ms (.rt r ms') := .of (fun X hX => ps_ret (pe_c hX e)) fun as σ H D s en k => h as σ H _ s en fun v H1 k1 s1 q1 => k as v H1 (.of k1) s1 q1
theorem ss_if {p q : List Stmt} (h : ET S c ρ ms t ms1) (h1 : t = true → SSs S p ρ ms1 o) (h0 : t = false → SSs S q ρ ms1 o) : SS S (.If c p q pos) ρ ms o :=
  .of (fun X hX => ps_if (pt_c hX c) (pss_c hX p) (pss_c hX q)) fun as σ H D s en k => h as σ H _ s en fun H1 k1 s1 => by
    cases t with
    | true => exact iteT (h1 rfl as σ H1 D s1 (en.kp k1) (k.back s s1 (.of k1)))
    | false => exact iteF (h0 rfl as σ H1 D s1 (en.kp k1) (k.back s s1 (.of k1)))
/-- if c: .. (rest); else: .. (rest) -/
theorem ss_ifc {p q : List Stmt} (h : ET S c ρ ms t ms1) (h1 : t = true → ((∃ ρ1 ms2, SSs S p ρ ms1 (.nx ρ1 ms2) ∧ SSs S rest ρ1 ms2 o) ∨ (o.isNx = false ∧ SSs S p ρ ms1 o)))
    (h0 : t = false → ((∃ ρ1 ms2, SSs S q ρ ms1 (.nx ρ1 ms2) ∧ SSs S rest ρ1 ms2 o) ∨ (o.isNx = false ∧ SSs S q ρ ms1 o))) : SSs S (.If c p q pos :: rest) ρ ms o := by
  cases t with
  | true =>
    rcases h1 rfl with ⟨ρ1, ms2, z1, z2⟩ | ⟨z1, z2⟩
    · exact ss_cons (ss_if h (fun _ => z1) (fun z => nomatch z)) z2
    · exact ss_out (ss_if h (fun _ => z2) (fun z => nomatch z)) z1
  | false =>
    rcases h0 rfl with ⟨ρ1, ms2, z1, z2⟩ | ⟨z1, z2⟩
    · exact ss_cons (ss_if h (fun z => nomatch z) (fun _ => z1)) z2
    · exact ss_out (ss_if h (fun z => nomatch z) (fun _ => z2)) z1

/-! ### stores to names -/
theorem EnvOk.set {v : V} {s' : Sl} (h : EnvOk K as H σ ρ) (q : SlOk K as H (some v) s') : EnvOk K as H (σ.set i (some v)) (ρ.set i s') := by
  refine ⟨by simp [h.1], fun j s o e1 e2 => ?_⟩
  by_cases hj : i = j
  · subst hj
    have hl : i < ρ.length := by
      have := (List.getElem?_eq_some_iff.mp e1).1
      simpa using this
    rw [List.getElem?_set_self hl] at e1
    rw [List.getElem?_set_self (by rw [h.1]; exact hl)] at e2
    cases e1; cases e2; exact q
  · rw [List.getElem?_set_ne hj] at e1 e2
    exact h.2 j s o e1 e2
theorem EnvOk.gr {bs : List Addr} (k : Kq as H H') (sb : ∃ l, bs = as ++ l ∧ ∀ p ∈ l, H p = none) (h : EnvOk K as H σ ρ) : EnvOk K bs H' σ ρ := ⟨h.1, fun i s o e1 e2 => by
  have q := h.2 i s o e1 e2
  obtain ⟨l, rfl, n⟩ := sb
  have sb' : ∀ q ∈ as ++ l, q ∈ as ∨ H q = none := fun q z => (List.mem_append.mp z).imp id (n q)
  cases s with
  | un => trivial
  | dat d => obtain ⟨v, e, q⟩ := q; exact ⟨v, e, R.chg k sb' _ _ q⟩
  | mu k' =>
    obtain ⟨a, e, q⟩ := q
    refine ⟨a, e, ?_⟩
    rw [List.getElem?_append_left (List.getElem?_eq_some_iff.mp q).1]
    exact q
  | scr ns =>
    obtain ⟨a, e, q⟩ := q
    exact ⟨a, e, q.chg k sb'⟩⟩

/-! ### targets -/
def cG (S : Sx) (tg : Expr) : TG := fun v σ H Q => ∃ g : TG, (∀ X, InS S X → PG X tg g) ∧ g v σ H Q
def cGs (S : Sx) (tgs : List Expr) : TGs := fun vs σ H Q => ∃ g : TGs, (∀ X, InS S X → PGs X tgs g) ∧ g vs σ H Q
theorem pg_c {X : Cx} (h : InS S X) (e : Expr) : PG X e (cG S e) := ⟨fun pins s σ H v u Q I r ⟨te, p, q⟩ => (p X h).run pins s σ H v u Q I r q⟩
theorem pgs_c {X : Cx} (h : InS S X) (e : List Expr) : PGs X e (cGs S e) := ⟨fun pins s σ H vs us Q I r ⟨te, p, q⟩ => (p X h).run pins s σ H vs us Q I r q⟩
def But (sl : List Nat) (σ σ' : L2.St) : Prop := σ'.length = σ.length ∧ ∀ i, i ∉ sl → σ'[i]? = σ[i]?
def EG (S : Sx) (tg : Expr) (d : D) (ρ ρ' : Env') (sl : List Nat) : Prop := ∀ (as : List Addr) (σ : L2.St) (H : Hp) (v : V) (Q : L2.St → Hp → Prop), EnvOk S.K as H σ ρ → R S.K as H v d → (∀ σ', EnvOk S.K as H σ' ρ' → But sl σ σ' → Q σ' H) → cG S tg v σ H Q
def EGs (S : Sx) (tgs : List Expr) (ds : List D) (ρ ρ' : Env') (sl : List Nat) : Prop := ∀ (as : List Addr) (σ : L2.St) (H : Hp) (vs : List V) (Q : L2.St → Hp → Prop), EnvOk S.K as H σ ρ → RA S.K as H vs ds → (∀ σ', EnvOk S.K as H σ' ρ' → But sl σ σ' → Q σ' H) → cGs S tgs vs σ H Q
variable {d : D} {ds : List D} {tg : Expr} {tgs es : List Expr}
theorem eg_name (i : Nat) (hN : S.N.Nodup) (hi : S.N[i]? = some x) (hx : Loc S.sc x) (hf : S.cl x = true ∨ S.sc.names.lookup x = some .local) : EG S (.Name x pos) d ρ (ρ.set i (.dat d)) [i] := fun as σ H v Q en r k =>
  ⟨gName i, fun X hX => pg_name (by rw [hX.n]; exact hN) (by rw [hX.n]; exact hi) (hX.loc hx) (hX.hf hf), k _ (en.set ⟨v, rfl, r⟩) ⟨by simp, fun j hj => List.getElem?_set_ne (fun z => hj (by simp [z]))⟩⟩
theorem egs_nil : EGs S [] [] ρ ρ [] := fun as σ H vs Q en r k => ⟨gNil, fun X hX => pgs_nil, by unfold RA at r; exact ⟨r, k σ en ⟨rfl, fun _ _ => rfl⟩⟩⟩
theorem egs_cons (ha : ∀ X : Cx, ∀ (t : TG) (u : TGs), PG X tg t → PGs X tgs u → PGs X (tg :: tgs) (gCons t u)) {sl1 sl2 : List Nat} (h1 : EG S tg d ρ ρ1 sl1) (h2 : EGs S tgs ds ρ1 ρ2 sl2) : EGs S (tg :: tgs) (d :: ds) ρ ρ2 (sl1 ++ sl2) := fun as σ H vs Q en r k =>
  ⟨gCons (cG S tg) (cGs S tgs), fun X hX => ha X _ _ (pg_c hX tg) (pgs_c hX tgs), by
    unfold RA at r
    obtain ⟨v, u, e, r1, r2⟩ := r
    exact ⟨v, u, e, h1 as σ H v _ en r1 fun σ1 en1 b1 => h2 as σ1 H u _ en1 r2 fun σ2 en2 b2 => k σ2 en2 ⟨b2.1.trans b1.1, fun i hi => (b2.2 i fun z => hi (List.mem_append_right _ z)).trans (b1.2 i fun z => hi (List.mem_append_left _ z))⟩⟩⟩
theorem eg_tup {k : Nat} (hn : ∀ env, (assignEach tgs env).length = ds.length) (hst : ∀ env, (assignEach tgs env).findIdx? (·.1) = none) {sl : List Nat} (h : EGs S tgs ds ρ ρ' sl) : EG S (.Tuple tgs k pos) (.tuple ds) ρ ρ' sl := fun as σ H v Q en r kk =>
  ⟨gTup S.K ds.length (cGs S tgs), fun X hX => by have h := pg_tup (k := k) (pos := pos) hX.calm (pgs_c hX tgs) (hn _) (hst _); rw [hX.k] at h; exact h, by
    unfold R at r
    obtain ⟨a, xs, e, t, ra⟩ := r
    exact ⟨a, xs, e, SqT.sp t, ra.length, h as σ H xs Q en ra kk⟩⟩
/-- a list unpacked into names -/
theorem eg_lst {k : Nat} (hn : ∀ env, (assignEach tgs env).length = ds.length) (hst : ∀ env, (assignEach tgs env).findIdx? (·.1) = none) {sl : List Nat} (h : EGs S tgs ds ρ ρ' sl) : EG S (.Tuple tgs k pos) (.list ds) ρ ρ' sl := fun as σ H v Q en r kk =>
  ⟨gUnl S.K ds.length (cGs S tgs), fun X hX => by have h := pg_unl (k := k) (pos := pos) hX.calm (pgs_c hX tgs) (hn _) (hst _); rw [hX.k] at h; exact h, by
    unfold R at r
    obtain ⟨a, xs, e, n, hx, ra⟩ := r
    exact ⟨a, xs, e, .inl (.inl hx), ra.length, h as σ H xs Q en ra kk⟩⟩
theorem ss_asg (hs : ∀ env, swapsWithSole [tg] e pos.line env = pure false) (hw : ∀ env, swappedStores [tg] e env = pure none) (h1 : ∀ env, (assignEach [tg] env).map (·.2) = [assign tg env])
    (he : EE S e ρ ms r ms') (hr : frz r = some d) {sl : List Nat} (hg : EG S tg d ρ ρ' sl) : SS S (.Assign [tg] e pos) ρ ms (.nx ρ' ms') :=
  .of (fun X hX => ps_asg (pe_c hX e) (pg_c hX tg) (hs _) (hw _) (h1 _)) fun as σ H D s en k => he as σ H _ s en fun v H1 k1 s1 q1 => hg as σ H1 v _ (en.kp k1) (q1.frz hr) fun σ' en' _ => k as σ' H1 (.of k1) s1 en'
theorem ss_set (i : Nat) {px : Pos} (hN : S.N.Nodup) (hi : S.N[i]? = some x) (hx : Loc S.sc x) (hf : S.cl x = true ∨ S.sc.names.lookup x = some .local) (hs : ∀ env, swapsWith e (some (.Name x px)) pos.line env = pure false)
    (he : EE S e ρ ms r ms') (hr : frz r = some d) : SS S (.Assign [.Name x px] e pos) ρ ms (.nx (ρ.set i (.dat d)) ms') :=
  .of (fun X hX => ps_set (by rw [hX.n]; exact hN) (by rw [hX.n]; exact hi) (hX.loc hx) (pe_c hX e) (hs _) (hX.hf hf)) fun as σ H D s en k => he as σ H _ s en fun v H1 k1 s1 q1 =>
    k as _ H1 (.of k1) s1 ((en.kp k1).set ⟨v, rfl, q1.frz hr⟩)
theorem SR.open {p : Addr} {xs : List V} (s : SR K as H1 ms) (hp : p ∉ as) (h : H1 p = some (.lst xs)) (q : RA K (p :: as) H1 xs ds) (hr : ∀ (k : Nat) (a : Addr) (es : List D), as[k]? = some a → ms[k]? = some es → ∃ xs, H1 a = some (.lst xs) ∧ RA K (p :: as) H1 xs es) : SR K (as ++ [p]) H1 (ms ++ [ds]) := by
  refine ⟨?_, by simp [s.2.1], fun k a es e1 e2 => ?_⟩
  · rw [List.nodup_append]
    refine ⟨s.1, by simp, fun a ha b hb e => ?_⟩
    have : b = p := by simpa using hb
    rw [e, this] at ha
    exact hp ha
  · by_cases hk : k < as.length
    · rw [List.getElem?_append_left hk] at e1
      rw [List.getElem?_append_left (by rw [← s.2.1]; exact hk)] at e2
      obtain ⟨xs, z1, z2⟩ := hr k a es e1 e2
      exact ⟨xs, z1, z2.sub fun q z => by simpa [or_comm] using z⟩
    · rw [List.getElem?_append_right (by omega)] at e1
      rw [List.getElem?_append_right (by rw [← s.2.1]; omega)] at e2
      have hk2 : k - as.length = 0 := by
        have := (List.getElem?_eq_some_iff.mp e1).1
        simp at this; omega
      rw [hk2] at e1
      rw [show k - ms.length = 0 by rw [← s.2.1]; exact hk2] at e2
      have e1 : p = a := by simpa using e1
      have e2 : ds = es := by simpa using e2
      subst e1 e2
      exact ⟨xs, h, q.sub fun q z => by simpa [or_comm] using z⟩
def flatD : D → Bool
  | .none | .bool _ | .int _ | .str _ => true
  | _ => false
theorem R.flat {bs : List Addr} {v : V} (k : D) (hk : flatD k = true) (h : R K as H v k) : R K bs H v k := by
  cases k <;> first | (cases hk; done) | (unfold R at h ⊢; exact h)
theorem RA.flat {bs : List Addr} : ∀ {ds : List D} {vs : List V}, ds.all flatD = true → RA K as H vs ds → RA K bs H vs ds
  | [], _, _, h => by unfold RA at h ⊢; exact h
  | d :: ds, _, hk, h => by
    rw [List.all_cons, Bool.and_eq_true] at hk
    unfold RA at h
    obtain ⟨v, r, rfl, h1, h2⟩ := h
    exact RA.cons (R.flat d hk.1 h1) (RA.flat hk.2 h2)
/-- a new list that no changeable list has -/
def EEq (S : Sx) (e : Expr) (ρ : Env') (ms : MS) (ds : List D) (ms' : MS) : Prop := ∀ (as : List Addr) (σ : L2.St) (H : Hp) (Q : VK), SR S.K as H ms → EnvOk S.K as H σ ρ →
  (∀ (p : Addr) (xs : List V) (H' : Hp), Kp (S.T as) H H' → SR S.K as H' ms' → H p = none → p ∉ as → H' p = some (.lst xs) → RA S.K (p :: as) H' xs ds →
    (∀ (k : Nat) (a : Addr) (es : List D), as[k]? = some a → ms'[k]? = some es → ∃ xs, H' a = some (.lst xs) ∧ RA S.K (p :: as) H' xs es) → Q (.ref p) H') → cE S e σ H Q
theorem eeq_of (he : EE S e ρ ms (.new ds) ms') (hm : ∀ (k : Nat) (es : List D), ms'[k]? = some es → es.all flatD = true ∨ (ms[k]? = some es ∧ ¬ (S.n0 ≤ k ∨ S.tch k = true))) : EEq S e ρ ms ds ms' := fun as σ H Q s en k =>
  he as σ H Q s en fun v H1 k1 s1 q1 => by
    obtain ⟨p, xs, rfl, hp0, np, hp, ra⟩ := q1
    refine k p xs H1 k1 s1 hp0 np hp ra fun k' a es e1 e2 => ?_
    obtain ⟨ys, z1, z2⟩ := s1.2.2 k' a es e1 e2
    rcases hm k' es e2 with w | ⟨w, nt⟩
    · exact ⟨ys, z1, RA.flat w z2⟩
    · obtain ⟨zs, w1, w2⟩ := s.2.2 k' a es e1 w
      refine ⟨zs, k1 a _ (fun ⟨j, ej, tj⟩ => ?_) w1, RA.chg k1.q (fun q z => (List.mem_cons.mp z).elim (fun e => .inr (by rw [e]; exact hp0)) .inl) _ _ w2⟩
      have e : j = k' := by
        have h1 := List.getElem?_eq_some_iff.mp ej
        have h2 := List.getElem?_eq_some_iff.mp e1
        exact (List.getElem_inj s.1).mp (h1.2.trans h2.2.symm)
      exact nt (e ▸ tj)
/-- what changes nothing at all -/
def EEp (S : Sx) (e : Expr) (ρ : Env') (ms : MS) (r : Rs) : Prop := ∀ (as : List Addr) (σ : L2.St) (H : Hp) (Q : VK), SR S.K as H ms → EnvOk S.K as H σ ρ →
  (∀ v H', Kp (fun _ => False) H H' → SR S.K as H' ms → RsOk S.K as H H' v r → Q v H') → cE S e σ H Q
def EAp (S : Sx) (es : List Expr) (ρ : Env') (ms : MS) (rs : List Rs) : Prop := ∀ (as : List Addr) (σ : L2.St) (H : Hp) (Q : List V → Hp → Prop), SR S.K as H ms → EnvOk S.K as H σ ρ →
  (∀ vs H', Kp (fun _ => False) H H' → SR S.K as H' ms → RsA S.K as H H' vs rs → Q vs H') → cA S es σ H Q
theorem EEp.ee (h : EEp S e ρ ms r) : EE S e ρ ms r ms := fun as σ H Q s en k => h as σ H Q s en fun v H1 k1 => k v H1 k1.f
theorem eeq_p (he : EEp S e ρ ms (.new ds)) : EEq S e ρ ms ds ms := fun as σ H Q s en k =>
  he as σ H Q s en fun v H1 k1 s1 q1 => by
    obtain ⟨p, xs, rfl, hp0, np, hp, ra⟩ := q1
    refine k p xs H1 k1.f s1 hp0 np hp ra fun k' a es e1 e2 => ?_
    obtain ⟨zs, w1, w2⟩ := s.2.2 k' a es e1 e2
    exact ⟨zs, k1 a _ (fun z => z) w1, RA.chg (k1.f (T := S.T as)).q (fun q z => (List.mem_cons.mp z).elim (fun e => .inr (by rw [e]; exact hp0)) .inl) _ _ w2⟩
theorem eep_int {i : Int} {j pos} : EEp S (.Constant (.int i) j pos) ρ ms (.dat (.int i)) := fun as σ H Q s en k => ⟨tC (.int i), fun _ _ => pe_int, k _ H .refl s rInt⟩
theorem eap_nil : EAp S [] ρ ms [] := fun as σ H Q s en k => ⟨tNil, fun _ _ => pa_nil, k [] H .refl s rfl⟩
theorem eap_cons {es : List Expr} {rs : List Rs} (hs : ∀ X : Cx, ∀ (te : TE) (tr : TA), PE X a te → PA X es tr → PA X (a :: es) (tCons te tr)) (ha : EEp S a ρ ms r) (hr : EAp S es ρ ms rs) : EAp S (a :: es) ρ ms (r :: rs) := fun as σ H Q s en k =>
  ⟨tCons (cE S a) (cA S es), fun X hX => hs X _ _ (pe_c hX a) (pa_c hX es), ha as σ H _ s en fun v H1 k1 s1 q1 => hr as σ H1 _ s1 (en.kp (k1.f (T := S.T as))) fun vs H2 k2 s2 q2 =>
    k _ H2 (k1.trans k2) s2 ⟨v, vs, rfl, q1.kp (k2.f (T := S.T as)), q2.back' s1 (k1.f (T := S.T as))⟩⟩
theorem eep_lst {es : List Expr} {rs : List Rs} {ds : List D} (h : EAp S es ρ ms rs) (hf : frzA rs = some ds) (hz : ds.length ≤ sizeLine) : EEp S (.List es pos) ρ ms (.new ds) := fun as σ H Q s en k =>
  ⟨tLst (cA S es), fun X hX => pe_lst (pa_c hX es), h as σ H _ s en fun vs H1 k1 s1 q => by
    have q := q.frz hf
    exact ⟨by rw [q.length]; exact hz, fun p hp => k _ _ (k1.trans (.new hp)) (s1.new hp) (.mkNew s1 (k1.f (T := S.T as)).q hp q)⟩⟩
theorem eep_tup {es : List Expr} {rs : List Rs} {ds : List D} {x1} (h : EAp S es ρ ms rs) (hf : frzA rs = some ds) (hz : ds.length ≤ sizeLine) : EEp S (.Tuple es x1 pos) ρ ms (.dat (.tuple ds)) := fun as σ H Q s en k =>
  ⟨tTup (cA S es), fun X hX => pe_tup (pa_c hX es), h as σ H _ s en fun vs H1 k1 s1 q => by
    have q := q.frz hf
    exact ⟨by rw [q.length]; exact hz, fun p hp => k _ _ (k1.trans (.new hp)) (s1.new hp) (.mkTup s1 hp q)⟩⟩
/-- x = a new list that will be changed -/
theorem open_ok {p : Addr} {xs : List V} {n : Nat} (s : SR S.K as H ms) (en : EnvOk S.K as H σ ρ) (k1 : Kp (S.T as) H H1) (s1 : SR S.K as H1 ms') (hp0 : H p = none) (np : p ∉ as) (hp : H1 p = some (.lst xs)) (ra : RA S.K (p :: as) H1 xs ds)
    (hr : ∀ (k : Nat) (a : Addr) (es : List D), as[k]? = some a → ms'[k]? = some es → ∃ xs, H1 a = some (.lst xs) ∧ RA S.K (p :: as) H1 xs es) (hn : ms'.length = n) :
    Gr S as H (as ++ [p]) H1 ∧ SR S.K (as ++ [p]) H1 (ms' ++ [ds]) ∧ EnvOk S.K (as ++ [p]) H1 σ ρ ∧ (as ++ [p])[n]? = some p := by
  refine ⟨⟨[p], rfl, fun q z => by rw [List.mem_singleton.mp z]; exact hp0, k1⟩, SR.open s1 np hp ra hr, en.gr k1.q ⟨[p], rfl, fun q z => by rw [List.mem_singleton.mp z]; exact hp0⟩, ?_⟩
  rw [List.getElem?_append_right (by rw [s1.2.1, hn]; exact Nat.le_refl _), s1.2.1, hn, Nat.sub_self]
  rfl
theorem ss_open (i : Nat) {px : Pos} (hN : S.N.Nodup) (hi : S.N[i]? = some x) (hx : Loc S.sc x) (hf : S.cl x = true ∨ S.sc.names.lookup x = some .local) (hs : ∀ env, swapsWith e (some (.Name x px)) pos.line env = pure false)
    (he : EEq S e ρ ms ds ms') (n : Nat) (hn : ms'.length = n) : SS S (.Assign [.Name x px] e pos) ρ ms (.nx (ρ.set i (.mu n)) (ms' ++ [ds])) :=
  .of (fun X hX => ps_set (by rw [hX.n]; exact hN) (by rw [hX.n]; exact hi) (hX.loc hx) (pe_c hX e) (hs _) (hX.hf hf)) fun as σ H En s en k => he as σ H _ s en fun p xs H1 k1 s1 hp0 np hp ra hr => by
    obtain ⟨g1, g2, g3, g4⟩ := open_ok s en k1 s1 hp0 np hp ra hr hn
    exact k (as ++ [p]) _ H1 g1 g2 (g3.set ⟨p, rfl, g4⟩)
end
end Abs
namespace Abs
open PySem PySem.Spec PyProof.Rows L2
section
variable {S : Sx} {K : PySem.W.Frag} {as as1 as2 : List Addr} {H H1 H2 H' : Hp} {ms ms1 ms2 ms3 ms' : MS} {ρ ρ1 ρ2 ρ' : Env'} {σ : L2.St} {e a b c : Expr} {es : List Expr} {r r' r1 r2 r3 : Rs} {rs : List Rs} {o : Out} {st : Stmt} {rest : List Stmt} {pos p : Pos} {t : Bool} {i j l : Nat} {x y z : Str} {En : Ends} {d d1 d2 d3 : D} {ds ds1 ds2 : List D}

/-! ### pure parts -/
theorem eep_var (i : Nat) (hN : S.N[i]? = some x) (hv : Vis S.sc x) (h : ρ[i]? = some (.dat d)) (hd : (x == ("__debug__" : Str)) = false := by decide) (hcd : (x == ("__classdict__" : Str)) = false := by decide) : EEp S (.Name x pos) ρ ms (.dat d) := fun as σ H Q s en k =>
  ⟨tVar i, fun X hX => pe_var (by rw [hX.n]; exact hN) (hX.vis hv) hd hcd, by
    have hl : i < σ.length := by rw [en.1]; exact (List.getElem?_eq_some_iff.mp h).1
    obtain ⟨v, e, q⟩ := en.2 i _ _ h (List.getElem?_eq_getElem hl)
    exact ⟨v, by rw [List.getElem?_eq_getElem hl, e], k v H .refl s q⟩⟩
theorem eep_cty {T : String} {rr : List V → Hp → VK → Prop} (hc : ∀ X, InS S X → CallR X (.type T) rr) (hm : S.mg x = none) (hg : S.sc.names.lookup x = some .globalImplicit) (hv : bootBuiltins x = some (.type T)) (h : CrOk S rr rs ms r3)
    (ha : EAp S (e :: es) ρ ms rs) (hn : x ≠ "__name__" := by decide) (hdb : (x == ("__debug__" : Str)) = false := by decide)
    (he : ∀ env, starEach (e :: es) env = (false, eval e env) :: starEach es env := by intro _; rfl) (hpl : ∀ env, (backTo pos (starEach es env)).any (·.1) = false := by intro _; rfl) : EEp S (.Call (.Name x p) (e :: es) [] pos) ρ ms r3 := fun as σ H Q s en k =>
  ⟨tCB rr (cA S (e :: es)), fun X hX => pe_callTy (hc X hX) (hX.gl hg) (by rw [hX.mg]; exact hm) hv (pa_c hX _) hn hdb (he _) (hpl _), ha as σ H _ s en fun vs H1 k1 s1 q1 => h as H H1 vs s1 q1 Q fun v H2 k2 s2 q2 => k v H2 (k1.trans k2) s2 (q2.back' s1 (k1.f (T := S.T as)))⟩
theorem eep_call {k : Nat} {F : Rel} (Kf : KnS S k x F) (hk : k ≤ S.k) (hg : S.sc.names.lookup x = some .globalImplicit) (ha : EAp S (e :: es) ρ ms rs) (hF : F (rs.map arg) ms r ms) (ht : ∀ j, ¬ Rs.mu j ∈ rs.map arg)
    (hd : (x == ("__debug__" : Str)) = false := by decide) (he : ∀ env, starEach (e :: es) env = (false, eval e env) :: starEach es env := by intro _; rfl) (hpl : ∀ env, (backTo pos (starEach es env)).any (·.1) = false := by intro _; rfl) :
    EEp S (.Call (.Name x p) (e :: es) [] pos) ρ ms r := by
  obtain ⟨f, F1, hm, hkp⟩ := Kf.ex
  refine fun as σ H Q s en kk => ⟨fun σ H Q => cA S (e :: es) σ H fun vs H1 => spR S.K F vs H1 Q E0, fun X hX => ?_, ha as σ H _ s en fun vs H1 k1 s1 q1 => ?_⟩
  · refine pe_callR (k := k) (f := f) (CX := CX0) ?_ (hX.room.mono hk) (hX.gl hg) (by rw [hX.mg]; exact hm) (by rw [hX.k]; exact hkp) pass0 (pa_c hX _) (by assumption) (he _) (hpl _)
    rw [hX.p, hX.w, hX.k, hX.mg, hX.base]
    exact F1
  · exact ⟨as, ms, rs.map arg, r, ms, s1, q1.arg, hF, fun v H2 k2 s2 q2 => kk v H2 (k1.trans fun b o _ e => k2 b o (fun ⟨j, z, w⟩ => ht j w) e) s2 (q2.back' s1 (k1.f (T := S.T as)))⟩

theorem EnvOk.setD {v : V} (h : EnvOk K as H σ ρ) (q : R K as H v d) : EnvOk K as H (σ.set i (some v)) (ρ.set i (.dat d)) := h.set ⟨v, rfl, q⟩
theorem EnvOk.setM {p : Addr} {n : Nat} (h : EnvOk K as H σ ρ) (q : as[n]? = some p) : EnvOk K as H (σ.set i (some (.ref p))) (ρ.set i (.mu n)) := h.set ⟨p, rfl, q⟩
/-! ### a, b = .., a, b, c = .. -/
def swOk (S : Sx) (tg : Expr) (e : Expr) (nm : List Str) : Prop := ∀ X, InS S X → swappedStores [tg] e X.env = pure (some nm)
theorem ss_par {px py pt : Pos} {kt k2 pt2} (i j : Nat) (hN : S.N.Nodup) (hi : S.N[i]? = some x) (hj : S.N[j]? = some y) (hij : i ≠ j) (hx : S.sc.names.lookup x = some .local) (hy : S.sc.names.lookup y = some .local)
    (hw : swOk S (.Tuple [.Name x px, .Name y py] kt pt) (.Tuple [a, b] k2 pt2) [x, y]) (ha : EA S [a, b] ρ ms [r1, r2] ms') (h1 : frz r1 = some d1) (h2 : frz r2 = some d2) :
    SS S (.Assign [.Tuple [.Name x px, .Name y py] kt pt] (.Tuple [a, b] k2 pt2) pos) ρ ms (.nx ((ρ.set i (.dat d1)).set j (.dat d2)) ms') :=
  .of (fun X hX => ps_par hX.calm (by rw [hX.n]; exact hN) (by rw [hX.n]; exact hi) (by rw [hX.n]; exact hj) hij (by rw [hX.sc]; exact hx) (by rw [hX.sc]; exact hy) (pa_c hX _) (hw X hX)) fun as σ H En s en k =>
    ha as σ H _ s en fun vs H1 k1 s1 q1 => by
      obtain ⟨v, u, rfl, q1, q2⟩ := rs2 q1
      exact ⟨v, u, rfl, k as _ H1 (.of k1) s1 (((en.kp k1).setD (q1.frz h1)).setD (q2.frz h2))⟩
theorem ss_par3 {px py pz pt : Pos} {kt k2 pt2} (i j l : Nat) (hN : S.N.Nodup) (hi : S.N[i]? = some x) (hj : S.N[j]? = some y) (hl : S.N[l]? = some z) (hij : i ≠ j) (hil : i ≠ l) (hjl : j ≠ l)
    (hx : S.sc.names.lookup x = some .local) (hy : S.sc.names.lookup y = some .local) (hz : S.sc.names.lookup z = some .local)
    (hw : swOk S (.Tuple [.Name x px, .Name y py, .Name z pz] kt pt) (.Tuple [a, b, c] k2 pt2) [x, y, z]) (ha : EA S [a, b, c] ρ ms [r1, r2, r3] ms') (h1 : frz r1 = some d1) (h2 : frz r2 = some d2) (h3 : frz r3 = some d3) :
    SS S (.Assign [.Tuple [.Name x px, .Name y py, .Name z pz] kt pt] (.Tuple [a, b, c] k2 pt2) pos) ρ ms (.nx (((ρ.set i (.dat d1)).set j (.dat d2)).set l (.dat d3)) ms') :=
  .of (fun X hX => L2.ps_par3 hX.calm (by rw [hX.n]; exact hN) (by rw [hX.n]; exact hi) (by rw [hX.n]; exact hj) (by rw [hX.n]; exact hl) hij hil hjl (by rw [hX.sc]; exact hx) (by rw [hX.sc]; exact hy) (by rw [hX.sc]; exact hz) (pa_c hX _) (hw X hX)) fun as σ H En s en k =>
    ha as σ H _ s en fun vs H1 k1 s1 q1 => by
      obtain ⟨v, u, rfl, q1, q'⟩ := q1
      obtain ⟨w, w2, rfl, q2, q3⟩ := rs2 q'
      exact ⟨v, w, w2, rfl, k as _ H1 (.of k1) s1 ((((en.kp k1).setD (q1.frz h1)).setD (q2.frz h2)).setD (q3.frz h3))⟩
theorem RA.cons_guard {p : Addr} {vs : List V} (k : Kp (fun _ => False) H H') (hp : H p = none) (h : RA K as H vs ds) : RA K (p :: as) H' vs ds :=
  RA.chg (as := as) (fun b o _ e => k b o (fun z => z) e) (fun q z => (List.mem_cons.mp z).elim (fun e => .inr (by rw [e]; exact hp)) .inl) _ _ h
theorem SR.guard {p : Addr} (k : Kp (fun _ => False) H H') (hp : H p = none) (s : SR K as H ms) : ∀ (k : Nat) (a : Addr) (es : List D), as[k]? = some a → ms[k]? = some es → ∃ xs, H' a = some (.lst xs) ∧ RA K (p :: as) H' xs es := fun k' a es e1 e2 => by
  obtain ⟨zs, w1, w2⟩ := s.2.2 k' a es e1 e2
  exact ⟨zs, k a _ (fun z => z) w1, w2.cons_guard k hp⟩
theorem RA.keep {bs : List Addr} {vs : List V} (k : Kp (fun _ => False) H H') (h : RA K bs H vs ds) : RA K bs H' vs ds := RA.kq (fun b o _ e => k b o (fun z => z) e) h
/-- the first one a list that will be changed, the second one a scalar -/
theorem ss_par_od {px py pt : Pos} {kt k2 pt2} (i j : Nat) (hN : S.N.Nodup) (hi : S.N[i]? = some x) (hj : S.N[j]? = some y) (hij : i ≠ j) (hx : S.sc.names.lookup x = some .local) (hy : S.sc.names.lookup y = some .local)
    (hw : swOk S (.Tuple [.Name x px, .Name y py] kt pt) (.Tuple [a, b] k2 pt2) [x, y]) (hs : ∀ X : Cx, ∀ t u : TE, PE X a t → PE X b u → PA X [a, b] (tCons t (tCons u tNil)))
    (ha : EEp S a ρ ms (.new ds)) (hb : EEp S b ρ ms (.dat d2)) (h2 : flatD d2 = true) (n : Nat) (hn : ms.length = n) :
    SS S (.Assign [.Tuple [.Name x px, .Name y py] kt pt] (.Tuple [a, b] k2 pt2) pos) ρ ms (.nx ((ρ.set i (.mu n)).set j (.dat d2)) (ms ++ [ds])) :=
  .of (fun X hX => ps_par hX.calm (by rw [hX.n]; exact hN) (by rw [hX.n]; exact hi) (by rw [hX.n]; exact hj) hij (by rw [hX.sc]; exact hx) (by rw [hX.sc]; exact hy) (hs X _ _ (pe_c hX a) (pe_c hX b)) (hw X hX)) fun as σ H En s en k =>
    ha as σ H _ s en fun v H1 k1 s1 q1 => hb as σ H1 _ s1 (en.kp (k1.f (T := S.T as))) fun u H2 k2 s2 q2 => by
      obtain ⟨p, xs, rfl, hp0, np, hp, ra⟩ := q1
      have kk : Kp (fun _ => False) H H2 := k1.trans k2
      obtain ⟨g1, g2, g3, g4⟩ := open_ok (ds := ds) s en (kk.f) s2 hp0 np (k2 p _ (fun z => z) hp) (ra.keep k2) (s.guard kk hp0) hn
      exact ⟨.ref p, u, rfl, k (as ++ [p]) _ H2 g1 g2 ((g3.setM g4).setD (R.flat _ h2 q2))⟩
/-- the second one a list that will be changed -/
theorem ss_par_do {px py pt : Pos} {kt k2 pt2} (i j : Nat) (hN : S.N.Nodup) (hi : S.N[i]? = some x) (hj : S.N[j]? = some y) (hij : i ≠ j) (hx : S.sc.names.lookup x = some .local) (hy : S.sc.names.lookup y = some .local)
    (hw : swOk S (.Tuple [.Name x px, .Name y py] kt pt) (.Tuple [a, b] k2 pt2) [x, y]) (hs : ∀ X : Cx, ∀ t u : TE, PE X a t → PE X b u → PA X [a, b] (tCons t (tCons u tNil)))
    (ha : EE S a ρ ms r1 ms1) (h1 : frz r1 = some d1) (hb : EEp S b ρ ms1 (.new ds)) (n : Nat) (hn : ms1.length = n) :
    SS S (.Assign [.Tuple [.Name x px, .Name y py] kt pt] (.Tuple [a, b] k2 pt2) pos) ρ ms (.nx ((ρ.set i (.dat d1)).set j (.mu n)) (ms1 ++ [ds])) :=
  .of (fun X hX => ps_par hX.calm (by rw [hX.n]; exact hN) (by rw [hX.n]; exact hi) (by rw [hX.n]; exact hj) hij (by rw [hX.sc]; exact hx) (by rw [hX.sc]; exact hy) (hs X _ _ (pe_c hX a) (pe_c hX b)) (hw X hX)) fun as σ H En s en k =>
    ha as σ H _ s en fun v H1 k1 s1 q1 => hb as σ H1 _ s1 (en.kp k1) fun u H2 k2 s2 q2 => by
      obtain ⟨p, xs, rfl, hp0, np, hp, ra⟩ := q2
      obtain ⟨g1, g2, g3, g4⟩ := open_ok (ds := ds) s1 (en.kp k1) (k2.f) s2 hp0 np hp ra (s1.guard k2 hp0) hn
      refine ⟨v, .ref p, rfl, k (as ++ [p]) _ H2 (Gr.trans s s1 (.of k1) g1) g2 ((g3.setD (R.chg (as := as) (fun b o _ e => k2 b o (fun z => z) e) (fun q z => ?_) _ _ (q1.frz h1))).setM g4)⟩
      rcases List.mem_append.mp z with z | z
      · exact .inl z
      · rw [List.mem_singleton.mp z]; exact .inr hp0
/-- both lists that will be changed, the second one of scalars (empty) -/
theorem ss_par_oo {px py pt : Pos} {kt k2 pt2} (i j : Nat) (hN : S.N.Nodup) (hi : S.N[i]? = some x) (hj : S.N[j]? = some y) (hij : i ≠ j) (hx : S.sc.names.lookup x = some .local) (hy : S.sc.names.lookup y = some .local)
    (hw : swOk S (.Tuple [.Name x px, .Name y py] kt pt) (.Tuple [a, b] k2 pt2) [x, y]) (hs : ∀ X : Cx, ∀ t u : TE, PE X a t → PE X b u → PA X [a, b] (tCons t (tCons u tNil)))
    (ha : EEp S a ρ ms (.new ds1)) (hb : EEp S b ρ ms (.new ds2)) (h2 : ds2.all flatD = true) (n m : Nat) (hn : ms.length = n) (hm : ms.length + 1 = m) :
    SS S (.Assign [.Tuple [.Name x px, .Name y py] kt pt] (.Tuple [a, b] k2 pt2) pos) ρ ms (.nx ((ρ.set i (.mu n)).set j (.mu m)) (ms ++ [ds1, ds2])) :=
  .of (fun X hX => ps_par hX.calm (by rw [hX.n]; exact hN) (by rw [hX.n]; exact hi) (by rw [hX.n]; exact hj) hij (by rw [hX.sc]; exact hx) (by rw [hX.sc]; exact hy) (hs X _ _ (pe_c hX a) (pe_c hX b)) (hw X hX)) fun as σ H En s en k =>
    ha as σ H _ s en fun v H1 k1 s1 q1 => hb as σ H1 _ s1 (en.kp (k1.f (T := S.T as))) fun u H2 k2 s2 q2 => by
      obtain ⟨p, xs, rfl, hp0, np, hp, ra⟩ := q1
      obtain ⟨p2, ys, rfl, hp20, np2, hp2, ra2⟩ := q2
      have kk : Kp (fun _ => False) H H2 := k1.trans k2
      have hne : p2 ≠ p := fun z => by rw [z, hp] at hp20; cases hp20
      obtain ⟨g1, g2, g3, g4⟩ := open_ok (ds := ds1) s en (k1.f) s1 hp0 np hp ra (s.guard k1 hp0) hn
      have g5 := SR.open s2 np (k2 p _ (fun z => z) hp) (ra.keep k2) (s.guard kk hp0)
      have hnp2 : p2 ∉ as ++ [p] := fun z => (List.mem_append.mp z).elim np2 fun z => hne (List.mem_singleton.mp z)
      have g6 := SR.open (ds := ds2) g5 hnp2 hp2 (RA.flat h2 ra2) (g2.guard k2 hp20)
      have hH : H p2 = none := fresh_back s1 (k1.f (T := S.T as)).q hp20
      have g7 : EnvOk S.K (as ++ [p] ++ [p2]) H2 σ ρ := g3.gr (fun b o _ e => k2 b o (fun z => z) e) ⟨[p2], rfl, fun q z => by rw [List.mem_singleton.mp z]; exact hp20⟩
      have e1 : (as ++ [p] ++ [p2])[n]? = some p := by
        rw [List.getElem?_append_left (List.getElem?_eq_some_iff.mp g4).1]; exact g4
      have e2 : (as ++ [p] ++ [p2])[m]? = some p2 := by
        have hl : (as ++ [p]).length = m := by rw [List.length_append, s.2.1]; simpa using hm
        rw [List.getElem?_append_right (by omega), hl, Nat.sub_self]; rfl
      refine ⟨.ref p, .ref p2, rfl, k (as ++ [p, p2]) _ H2 ⟨[p, p2], rfl, fun q z => ?_, kk.f⟩ ?_ ?_⟩
      · rcases List.mem_cons.mp z with z | z
        · rw [z]; exact hp0
        · rw [List.mem_singleton.mp z]; exact hH
      · have g6 := g6
        rw [List.append_assoc, List.append_assoc] at g6
        exact g6
      · have g8 := (g7.setM (i := i) e1).setM (i := j) e2
        rw [List.append_assoc] at g8
        exact g8

/-! ### x op= e, x[i] = e, a statement e -/
theorem ss_aug {op : Operator} {g : Int → Int → Int} {u v : Int} {px : Pos} (i : Nat) (hN : S.N.Nodup) (hi : S.N[i]? = some x) (hx : Loc S.sc x) (hf : S.cl x = true ∨ S.sc.names.lookup x = some .local) (ho : ∀ X : Cx, PIp X op (ipI g))
    (hρ : ρ[i]? = some (.dat (.int u))) (he : EE S e ρ ms (.dat (.int v)) ms') : SS S (.AugAssign (.Name x px) op e pos) ρ ms (.nx (ρ.set i (.dat (.int (g u v)))) ms') :=
  .of (fun X hX => ps_aug (by rw [hX.n]; exact hN) (by rw [hX.n]; exact hi) (hX.loc hx) (pe_c hX e) (ho X) (hX.hf hf)) fun as σ H En s en k => by
    have hl : i < σ.length := by rw [en.1]; exact (List.getElem?_eq_some_iff.mp hρ).1
    obtain ⟨w, e1, q⟩ := en.2 i _ _ hρ (List.getElem?_eq_getElem hl)
    unfold R at q
    refine ⟨w, by rw [List.getElem?_eq_getElem hl, e1], he as σ H _ s en fun v' H1 k1 s1 q1 => ?_⟩
    exact ⟨u, v, q, q1.int, k as _ H1 (.of k1) s1 ((en.kp k1).setD (by unfold R; rfl))⟩
theorem ss_drop (hs : ∀ env, swapsWith e none pos.line env = pure false) (he : EE S e ρ ms r ms') : SS S (.Expr e pos) ρ ms (.nx ρ ms') :=
  .of (fun X hX => ps_expr (pe_c hX e) (hs _)) fun as σ H En s en k => he as σ H _ s en fun v H1 k1 s1 q1 => k as σ H1 (.of k1) s1 (en.kp k1)
theorem SR.set {k : Nat} {a : Addr} {vs : List V} (s : SR K as H ms) (hk : as[k]? = some a) (ra : RA K as H vs ds) : SR K as (upd H a (.lst vs)) (ms.set k ds) := by
  have hmem : a ∈ as := List.mem_of_getElem? hk
  have kq : Kq as H (upd H a (.lst vs)) := .mut hmem
  refine ⟨s.1, by rw [List.length_set]; exact s.2.1, fun j b es e1 e2 => ?_⟩
  by_cases hj : k = j
  · subst hj
    rw [hk] at e1; cases e1
    have hl : k < ms.length := by rw [← s.2.1]; exact (List.getElem?_eq_some_iff.mp hk).1
    rw [List.getElem?_set_self hl] at e2
    cases e2
    exact ⟨vs, upd_same, ra.kq kq⟩
  · rw [List.getElem?_set_ne hj] at e2
    obtain ⟨xs, z1, z2⟩ := s.2.2 j b es e1 e2
    refine ⟨xs, ?_, z2.kq kq⟩
    rw [upd_ne (fun z => ?_)]
    · exact z1
    · subst z
      have h1 := List.getElem?_eq_some_iff.mp hk
      have h2 := List.getElem?_eq_some_iff.mp e1
      exact hj ((List.getElem_inj s.1).mp (h1.2.trans h2.2.symm))
/-- x[i] = e of a changeable list -/
theorem ss_setItem {k : Nat} {u : Int} {m : Nat} {ps : Pos} {ox ix : Expr} (hs : ∀ env, swapsWithSole [.Subscript ox ix ps] e pos.line env = pure false) (hw : ∀ env, swappedStores [.Subscript ox ix ps] e env = pure none) (h1 : ∀ env, (assignEach [.Subscript ox ix ps] env).map (·.2) = [assign (.Subscript ox ix ps) env])
    (hsub : ∀ X : Cx, ∀ to ti : TE, PE X ox to → PE X ix ti → PG X (.Subscript ox ix ps) (gSub to ti rSetL)) (he : EE S e ρ ms r ms1) (hr : frz r = some d) (ho : EE S ox ρ ms1 (.mu k) ms1) (hi : EE S ix ρ ms1 (.dat (.int u)) ms1) (hk : ms1[k]? = some ds) (hm : ixN ds.length u = some m) (ht : S.n0 ≤ k ∨ S.tch k = true) :
    SS S (.Assign [.Subscript ox ix ps] e pos) ρ ms (.nx ρ (ms1.set k (ds.set m d))) :=
  .of (ts := tAsg (cE S e) (gSub (cE S ox) (cE S ix) rSetL)) (fun X hX => ps_asg (pe_c hX e) (hsub X _ _ (pe_c hX ox) (pe_c hX ix)) (hs _) (hw _) (h1 _)) fun as σ H En s en kk => he as σ H _ s en fun v H1 k1 s1 q1 =>
    ho as σ H1 _ s1 (en.kp k1) fun v2 H2 k2 s2 q2 => hi as σ H2 _ s2 (en.kp (k1.trans k2)) fun v3 H3 k3 s3 q3 => by
      obtain ⟨a, rfl, ha⟩ := q2
      obtain ⟨xs, z1, z2⟩ := s3.2.2 k a ds ha hk
      have hq := (q1.frz hr).kp (k2.trans k3)
      refine ⟨a, xs, u, m, rfl, q3.int, z1, by rw [z2.length]; exact hm, ?_⟩
      exact kk as σ _ (.of (((k1.trans k2).trans k3).trans (.mut ⟨k, ha, ht⟩))) (s3.set ha (RA.set m z2 hq)) (en.kp (((k1.trans k2).trans k3).trans (.mut ⟨k, ha, ht⟩)))
/-! ### methods of changeable lists -/
theorem bm_list {a : Addr} {xs : List V} (h : H a = some (.lst xs)) : tyV K "list" (.ref a) H := Or.inl ⟨rfl, _, Or.inl (Or.inl h)⟩
variable {ox : Expr} {ap : Pos} {k : Nat}
theorem ee_append (hb : ∀ X : Cx, ∀ (to : TE) (ta : TA), PE X ox to → PA X [e] ta → PE X (.Call (.Attribute ox "append" ap) [e] [] pos) (tBM X.K "list" rAppend to ta)) (ho : EE S ox ρ ms (.mu k) ms) (ha : EA S [e] ρ ms [r] ms1) (hr : frz r = some d)
    (hk : ms1[k]? = some ds) (hz : ds.length < sizeLine) (ht : S.n0 ≤ k ∨ S.tch k = true) : EE S (.Call (.Attribute ox "append" ap) [e] [] pos) ρ ms (.dat .none) (ms1.set k (ds ++ [d])) :=
  .of (te := tBM S.K "list" rAppend (cE S ox) (cA S [e])) (fun X hX => by have h := hb X _ _ (pe_c hX ox) (pa_c hX [e]); rw [hX.k] at h; exact h) fun as σ H Q s en kk => ho as σ H _ s en fun v H1 k1 s1 q1 => by
    obtain ⟨a, rfl, hka⟩ := q1
    obtain ⟨hl, _⟩ := List.getElem?_eq_some_iff.mp hka
    obtain ⟨xs0, w1, _⟩ := s1.2.2 k a (ms[k]'(by rw [← s1.2.1]; exact hl)) hka (List.getElem?_eq_getElem _)
    refine ⟨bm_list w1, ha as σ H1 _ s1 (en.kp k1) fun vs H2 k2 s2 q2 => ?_⟩
    obtain ⟨v, rfl, q3⟩ := rs1 q2
    obtain ⟨xs, z1, z2⟩ := s2.2.2 k a ds hka hk
    refine ⟨a, xs, v, rfl, rfl, z1, by rw [z2.length]; exact hz, ?_⟩
    exact kk .non _ ((k1.trans k2).trans (.mut ⟨k, hka, ht⟩)) (s2.set hka (z2.app (RA.cons (q3.frz hr) RA.nil))) (by unfold RsOk R; rfl)
theorem ee_extend (hb : ∀ X : Cx, ∀ (to : TE) (ta : TA), PE X ox to → PA X [e] ta → PE X (.Call (.Attribute ox "extend" ap) [e] [] pos) (tBM X.K "list" rExtend to ta)) (ho : EE S ox ρ ms (.mu k) ms) (ha : EA S [e] ρ ms [.new ds2] ms1)
    (hk : ms1[k]? = some ds) (hz : ds.length + ds2.length ≤ sizeLine) (ht : S.n0 ≤ k ∨ S.tch k = true) : EE S (.Call (.Attribute ox "extend" ap) [e] [] pos) ρ ms (.dat .none) (ms1.set k (ds ++ ds2)) :=
  .of (te := tBM S.K "list" rExtend (cE S ox) (cA S [e])) (fun X hX => by have h := hb X _ _ (pe_c hX ox) (pa_c hX [e]); rw [hX.k] at h; exact h) fun as σ H Q s en kk => ho as σ H _ s en fun v H1 k1 s1 q1 => by
    obtain ⟨a, rfl, hka⟩ := q1
    obtain ⟨hl, _⟩ := List.getElem?_eq_some_iff.mp hka
    obtain ⟨xs0, w1, _⟩ := s1.2.2 k a (ms[k]'(by rw [← s1.2.1]; exact hl)) hka (List.getElem?_eq_getElem _)
    refine ⟨bm_list w1, ha as σ H1 _ s1 (en.kp k1) fun vs H2 k2 s2 q2 => ?_⟩
    obtain ⟨v, rfl, q3⟩ := rs1 q2
    obtain ⟨p, ys, rfl, hp0, np, hp, ra⟩ := q3
    obtain ⟨xs, z1, z2⟩ := s2.2.2 k a ds hka hk
    refine ⟨a, p, xs, ys, rfl, rfl, z1, hp, by rw [z2.length, ra.length]; exact hz, ?_⟩
    exact kk .non _ ((k1.trans k2).trans (.mut ⟨k, hka, ht⟩)) (s2.set hka (z2.app (RA.sub (fun q z => List.mem_cons_of_mem _ z) ra))) (by unfold RsOk R; rfl)
theorem ee_popAt {u : Int} {m : Nat} (hb : ∀ X : Cx, ∀ (to : TE) (ta : TA), PE X ox to → PA X [e] ta → PE X (.Call (.Attribute ox "pop" ap) [e] [] pos) (tBM X.K "list" rPopAt to ta)) (ho : EE S ox ρ ms (.mu k) ms) (ha : EA S [e] ρ ms [.dat (.int u)] ms1)
    (hk : ms1[k]? = some ds) (hu : -(2 ^ 63) ≤ u ∧ u < 2 ^ 63) (hm : seqIndex? u ds.length = some m) (hd : ds[m]? = some d) (ht : S.n0 ≤ k ∨ S.tch k = true) : EE S (.Call (.Attribute ox "pop" ap) [e] [] pos) ρ ms (.dat d) (ms1.set k (ds.eraseIdx m)) :=
  .of (te := tBM S.K "list" rPopAt (cE S ox) (cA S [e])) (fun X hX => by have h := hb X _ _ (pe_c hX ox) (pa_c hX [e]); rw [hX.k] at h; exact h) fun as σ H Q s en kk => ho as σ H _ s en fun v H1 k1 s1 q1 => by
    obtain ⟨a, rfl, hka⟩ := q1
    obtain ⟨hl, _⟩ := List.getElem?_eq_some_iff.mp hka
    obtain ⟨xs0, w1, _⟩ := s1.2.2 k a (ms[k]'(by rw [← s1.2.1]; exact hl)) hka (List.getElem?_eq_getElem _)
    refine ⟨bm_list w1, ha as σ H1 _ s1 (en.kp k1) fun vs H2 k2 s2 q2 => ?_⟩
    obtain ⟨v, rfl, q3⟩ := rs1 q2
    obtain ⟨xs, z1, z2⟩ := s2.2.2 k a ds hka hk
    obtain ⟨y, y1, y2⟩ := z2.get hd
    refine ⟨a, xs, u, m, y, rfl, by rw [q3.int], z1, hu.1, hu.2, by rw [z2.length]; exact hm, y1, ?_⟩
    have kq : Kq as H2 (upd H2 a (.lst (xs.eraseIdx m))) := .mut (List.mem_of_getElem? hka)
    refine kk y _ ((k1.trans k2).trans (.mut ⟨k, hka, ht⟩)) (s2.set hka ?_) (show R S.K as _ y d from y2.kq kq)
    rw [List.eraseIdx_eq_take_drop_succ, List.eraseIdx_eq_take_drop_succ]
    exact (z2.take m).app (z2.drop (m + 1))

/-! ### def bodies -/
def slOf : Rs → Sl
  | .dat d => .dat d
  | .mu k => .mu k
  | .scr ns => .scr ns
  | _ => .un
theorem env_start {N : List Str} {vs : List V} : ∀ {rs : List Rs} , RsA K as H H vs rs → vs.length ≤ N.length → EnvOk K as H (L2.start N vs) (rs.map slOf ++ List.replicate (N.length - rs.length) .un) := by
  intro rs h hl
  have hlen := h.length
  refine ⟨by unfold L2.start; simp [hlen], fun i s o e1 e2 => ?_⟩
  by_cases hi : i < rs.length
  · have : ∀ {rs : List Rs} {vs : List V} (i : Nat) (s : Sl) (v : V), RsA K as H H vs rs → (rs.map slOf)[i]? = some s → vs[i]? = some v → SlOk K as H (some v) s := by
      intro rs
      induction rs with
      | nil => intro vs i s v _ e; simp at e
      | cons r rs ih =>
        intro vs i s v h e1 e2
        obtain ⟨w, u, rfl, q, q2⟩ := h
        cases i with
        | zero =>
          have e1 : slOf r = s := by simpa using e1
          have e2 : w = v := by simpa using e2
          subst e1 e2
          cases r with
          | dat d => exact ⟨w, rfl, q⟩
          | mu k => obtain ⟨a, rfl, ha⟩ := q; exact ⟨a, rfl, ha⟩
          | scr ns => obtain ⟨a, rfl, ha⟩ := q; exact ⟨a, rfl, ha⟩
          | new ds => trivial
          | ty T => trivial
        | succ i => exact ih i s v q2 (by simpa using e1) (by simpa using e2)
    rw [List.getElem?_append_left (by simpa using hi)] at e1
    unfold L2.start at e2
    rw [List.getElem?_append_left (by simpa [hlen] using hi), List.getElem?_map] at e2
    cases q : vs[i]? with
    | none => rw [q] at e2; cases e2
    | some v =>
      rw [q] at e2
      cases e2
      exact this i s v h e1 q
  · rw [List.getElem?_append_right (by simp; omega)] at e1
    have : s = .un := (List.mem_replicate.mp (List.mem_of_getElem? e1)).2
    subst this
    trivial
/-- how a body ends: what the caller is told -/
inductive Fin (ms' : MS) : Out → Rs → Prop
  | dat {d : D} {ex : MS} : Fin ms' (.rt (.dat d) (ms' ++ ex)) (.dat d)
  | new {ds : List D} {ex : MS} : Fin ms' (.rt (.new ds) (ms' ++ ex)) (.new ds)
  | newd {ds : List D} {ex : MS} : Fin ms' (.rt (.new ds) (ms' ++ ex)) (.dat (.list ds))
  | mu {ds : List D} {ex : MS} {j : Nat} : (ms' ++ ex)[j]? = some ds → ms'.length ≤ j → Fin ms' (.rt (.mu j) (ms' ++ ex)) (.new ds)
  | none {ρ : Env'} {ex : MS} : Fin ms' (.nx ρ (ms' ++ ex)) (.dat .none)
theorem SR.close {l : List Addr} {ex : MS} (s : SR K (as ++ l) H (ms ++ ex)) (hl : as.length = ms.length) : SR K as H ms := by
  refine ⟨(List.nodup_append.mp s.1).1, hl, fun k a ds e1 e2 => ?_⟩
  have h1 := (List.getElem?_eq_some_iff.mp e1).1
  have h2 := (List.getElem?_eq_some_iff.mp e2).1
  obtain ⟨xs, z1, z2⟩ := s.2.2 k a ds (by rw [List.getElem?_append_left h1]; exact e1) (by rw [List.getElem?_append_left h2]; exact e2)
  exact ⟨xs, z1, RA.sub (fun q z => List.mem_append_left _ z) z2⟩
/-- a body as its caller sees it -/
theorem body_ok {P : Program} {w : World} {mg : Str → Option Value} {base : Heap} {qual : Str} {st : Stmt} {f : Addr} {N : List Str} {kk : Nat} {cdv : Value} {A : Around} {outer : List Env} {s : Shared} {vs : List V} {Q : VK} {E : XK} {rs : List Rs}
    (hr : Room kk (A.deeper (envOfC qual (defScope st) s.heap.objs.size f cdv))) (hN : rs.length ≤ N.length) (s0 : SR K as H ms) (ra : RsA K as H H vs rs) (hl2 : ms'.length = ms.length)
    (hb : SSs ⟨N, defScope st, K, mg, P, w, base, kk, fun _ => true, ms.length, fun j => rs.any fun r => match r with | .mu i => i == j | _ => false⟩ (defBody st) (rs.map slOf ++ List.replicate (N.length - rs.length) .un) ms o) (hf : Fin ms' o r)
    (q : ∀ v H', Kp (fun b => ∃ j : Nat, as[j]? = some b ∧ Rs.mu j ∈ rs) H H' → SR K as H' ms' → RsOk K as H H' v r → Q v H') :
    ∃ t, PSs (cxOf CX0 P w K mg base N qual (defScope st) f cdv A outer s H E).nox (defBody st) t ∧ t { nx := fun _ H' => Q .non H', rt := Q } (start N vs) H := by
    have hl : vs.length = rs.length := ra.length
    refine ⟨_, pss_c (S := ⟨N, defScope st, K, mg, P, w, base, kk, fun _ => true, ms.length, fun j => rs.any fun r => match r with | .mu i => i == j | _ => false⟩) ⟨rfl, rfl, rfl, rfl, rfl, rfl, rfl, rfl, hr, fun _ _ => rfl, rfl⟩ _, ?_⟩
    have hal : as.length = ms'.length := by rw [hl2]; exact s0.2.1
    have tch : ∀ {as' : List Addr} {H' : Hp}, Gr ⟨N, defScope st, K, mg, P, w, base, kk, fun _ => true, ms.length, fun j => rs.any fun r => match r with | .mu i => i == j | _ => false⟩ as H as' H' → Kp (fun b => ∃ j : Nat, as[j]? = some b ∧ Rs.mu j ∈ rs) H H' := by
      intro as' H' g
      obtain ⟨l, _, _, k⟩ := g
      refine fun b o nb e => k b o (fun ⟨j, ej, tj⟩ => ?_) e
      have hj := (List.getElem?_eq_some_iff.mp ej).1
      rcases tj with tj | tj
      · have tj : ms.length ≤ j := tj
        rw [s0.2.1] at hj
        omega
      · obtain ⟨r0, hr0, hr1⟩ := List.any_eq_true.mp (show (rs.any fun r => match r with | .mu i => i == j | _ => false) = true from tj)
        refine nb ⟨j, ej, ?_⟩
        cases r0 with
        | mu i =>
          have : i = j := by simpa using hr1
          rw [← this]; exact hr0
        | dat d => cases hr1
        | new d => cases hr1
        | scr d => cases hr1
        | ty d => cases hr1
    refine hb as _ H _ s0 (env_start ra (by rw [hl]; exact hN)) ?_
    cases hf with
    | dat =>
      intro as' v H' g s1 q1
      obtain ⟨l, rfl, _, _⟩ := id g
      exact q v H' (tch g) (s1.close hal) (show R K as H' v _ from R.sub (fun q z => List.mem_append_left _ z) q1)
    | new =>
      intro as' v H' g s1 q1
      obtain ⟨l, rfl, _, _⟩ := id g
      obtain ⟨p, xs, rfl, hp0, np, hp, ra1⟩ := q1
      exact q _ H' (tch g) (s1.close hal) ⟨p, xs, rfl, hp0, fun z => np (List.mem_append_left _ z), hp, RA.sub (fun q z => by
        rcases List.mem_cons.mp z with z | z
        · rw [z]; exact List.mem_cons_self
        · exact List.mem_cons_of_mem _ (List.mem_append_left _ z)) ra1⟩
    | newd =>
      intro as' v H' g s1 q1
      obtain ⟨l, rfl, _, _⟩ := id g
      exact q v H' (tch g) (s1.close hal) (show R K as H' v _ from R.sub (fun q z => List.mem_append_left _ z) (q1.frz rfl))
    | mu hj hle =>
      intro as' v H' g s1 q1
      obtain ⟨l, rfl, hfr, _⟩ := id g
      obtain ⟨p, rfl, hp⟩ := q1
      obtain ⟨xs, z1, z2⟩ := s1.2.2 _ p _ hp hj
      have hpl : p ∈ l := by
        rw [List.getElem?_append_right (by omega)] at hp
        exact List.mem_of_getElem? hp
      refine q _ H' (tch g) (s1.close hal) ⟨p, xs, rfl, hfr p hpl, fun z => ?_, z1, RA.sub (fun q z => ?_) z2⟩
      · exact (List.nodup_append.mp s1.1).2.2 p z p hpl rfl
      · rcases List.mem_cons.mp z with z | z
        · rw [z]; exact List.mem_append_right _ hpl
        · exact List.mem_append_left _ z
    | none =>
      intro as' σ' H' g s1 en
      obtain ⟨l, rfl, _, _⟩ := id g
      exact q .non H' (tch g) (s1.close hal) (by unfold RsOk R; rfl)
/-- THE RULE for a def -/
theorem fnok_of {P : Program} {w : World} {mg : Str → Option Value} {base : Heap} {qual : Str} {st : Stmt} {f : Addr} {fd : FuncData} {N ps : List Str} {kk n : Nat} {F : Rel} (Fu : Fun K x qual st f fd) (Sc : FnScope N ps (defScope st)) (hn : ps.length = n) (hN : n ≤ N.length)
    (hlen : ∀ rs ms r ms', F rs ms r ms' → rs.length = n ∧ ms'.length = ms.length)
    (hbody : ∀ rs ms r ms', F rs ms r ms' → ∃ o, SSs ⟨N, defScope st, K, mg, P, w, base, kk, fun _ => true, ms.length, fun j => rs.any fun r => match r with | .mu i => i == j | _ => false⟩ (defBody st) (rs.map slOf ++ List.replicate (N.length - rs.length) .un) ms o ∧ Fin ms' o r) : FnOk P w K mg base CX0 (kk + 1) f fd ps (spR K F) := by
  refine Fu.ok Sc (fun vs H Q E h => ?_) (fun cdv A outer s H vs Q E hr h => ?_)
  · obtain ⟨as, ms, rs, r, ms', _, ra, hF, _⟩ := h
    rw [ra.length, (hlen rs ms r ms' hF).1, hn]
  · obtain ⟨as, ms, rs, r, ms', s0, ra, hF, q⟩ := h
    obtain ⟨o, hb, hf⟩ := hbody rs ms r ms' hF
    obtain ⟨hl1, hl2⟩ := hlen rs ms r ms' hF
    exact body_ok hr (by rw [hl1]; exact hN) s0 ra hl2 hb hf q
theorem kn_of {P : Program} {w : World} {mg : Str → Option Value} {base : Heap} {qual : Str} {st : Stmt} {f : Addr} {fd : FuncData} {N ps : List Str} {kk n : Nat} {F : Rel} (Fu : Fun K x qual st f fd) (Sc : FnScope N ps (defScope st)) (hb : Binds K fd ps []) (hm : mg x = some (.ref f)) (hn : ps.length = n) (hN : n ≤ N.length)
    (hlen : ∀ rs ms r ms', F rs ms r ms' → rs.length = n ∧ ms'.length = ms.length)
    (hbody : ∀ rs ms r ms', F rs ms r ms' → ∃ o, SSs ⟨N, defScope st, K, mg, P, w, base, kk, fun _ => true, ms.length, fun j => rs.any fun r => match r with | .mu i => i == j | _ => false⟩ (defBody st) (rs.map slOf ++ List.replicate (N.length - rs.length) .un) ms o ∧ Fin ms' o r) : Kn P w K mg base (kk + 1) x F :=
  ⟨f, ((fnok_of Fu Sc hn hN hlen hbody).raw hb .nil).imp fun vs H Q E h => by rw [List.append_nil]; exact h, hm, Fu.kp⟩
/-- a def with a star alone -/
theorem kn_star {P : Program} {w : World} {mg : Str → Option Value} {base : Heap} {qual pv : Str} {st : Stmt} {f : Addr} {fd : FuncData} {N : List Str} {kk : Nat} {F : Rel} (Fu : Fun K x qual st f fd) (Sc : FnScope N [pv] (defScope st)) (hm : mg x = some (.ref f)) (hN : 1 ≤ N.length)
    (hb : ∀ (kV doc pm : Value) (an : Option Addr) (cdv ct : Value) (us rest : List Value), us.length = ([] : List Str).length → bindArgs (PySem.W.fnOf x qual (defArgs st) (defBody st) (defScope st) .none kV doc pm an cdv ct) ⟨us ++ rest, []⟩ = (newTuple rest >>= fun t => pure (([] : List Str).zip us ++ [(pv, t)])))
    (hbody : ∀ rs ms r ms', F rs ms r ms' → ∃ ds, rs = ds.map Rs.dat ∧ ds.length ≤ sizeLine ∧ ms'.length = ms.length ∧ ∃ o, SSs ⟨N, defScope st, K, mg, P, w, base, kk, fun _ => true, ms.length, fun j => false⟩ (defBody st) (.dat (.tuple ds) :: List.replicate (N.length - 1) .un) ms o ∧ Fin ms' o r) : Kn P w K mg base (kk + 1) x F := by
  obtain ⟨oc, od, kV, doc, pm, an, cdv, ct, osl, rfl, lk, hcd⟩ := Fu.ex
  refine ⟨f, (StX.fn_star (ps := []) (k := kk) (sp := fun vs H Q E => ∃ (as : List Addr) (ms ms' : MS) (ds : List D) (r : Rs) (o : Out), SR K as H ms ∧ RsA K as H H vs [.dat (.tuple ds)] ∧ ms'.length = ms.length ∧ SSs ⟨N, defScope st, K, mg, P, w, base, kk, fun _ => true, ms.length, fun j => false⟩ (defBody st) (.dat (.tuple ds) :: List.replicate (N.length - 1) .un) ms o ∧ Fin ms' o r ∧
    ∀ v H', Kp (fun b => ∃ j : Nat, as[j]? = some b ∧ Rs.mu j ∈ [Rs.dat (.tuple ds)]) H H' → SR K as H' ms' → RsOk K as H H' v r → Q v H') lk hcd Sc StX.cxUp_none (hb kV doc pm an cdv ct) fun A outer s H vs Q E hr h => ?_).imp fun vs H Q E h => ?_, hm, Fu.kp⟩
  · obtain ⟨as, ms, ms', ds, r, o, s0, ra, hl, hs, hf, q⟩ := h
    obtain ⟨t, h1, h2⟩ := body_ok (rs := [.dat (.tuple ds)]) hr hN s0 ra hl hs hf q
    exact ⟨t, h1.nox, h2⟩
  · obtain ⟨as, ms, rs, r, ms', s0, ra, hF, q⟩ := h
    obtain ⟨ds, rfl, hz, hl, o, hs, hf⟩ := hbody rs ms r ms' hF
    have rd : ∀ {ds : List D} {vs : List V}, RsA K as H H vs (ds.map Rs.dat) → RA K as H vs ds := by
      intro ds
      induction ds with
      | nil => intro vs h; have h : vs = [] := h; subst h; exact RA.nil
      | cons d ds ih =>
        intro vs h
        obtain ⟨v, u, rfl, h1, h2⟩ := h
        exact RA.cons h1 (ih h2)
    have ra2 := rd ra
    refine ⟨[], vs, rfl, rfl, by rw [ra2.length]; exact hz, fun p hp => ⟨as, ms, ms', ds, r, o, s0.new hp, ⟨.ref p, [], rfl, ?_, rfl⟩, hl, hs, hf, fun v H' k1 s1 q1 => ?_⟩⟩
    · have h := RsOk.mkTup (H := H) s0 hp ra2
      exact h
    · refine q v H' (fun b o nb e => k1 b o (fun ⟨j, e1, e2⟩ => by simp at e2) ?_) s1 ?_
      · rw [upd_ne (ne_of_none e hp)]; exact e
      · cases r with
        | new ds =>
          obtain ⟨p2, xs, e, n1, q2⟩ := q1
          refine ⟨p2, xs, e, ?_, q2⟩
          by_cases z : p2 = p
          · rw [z]; exact hp
          · rw [upd_ne z] at n1; exact n1
        | dat d => exact q1
        | mu k => exact q1
        | scr ns => exact q1
        | ty T => exact q1
end
end Abs
namespace Abs
open PySem PySem.Spec PyProof.Rows L2
section
variable {S : Sx} {K : PySem.W.Frag} {as as1 as2 : List Addr} {H H1 H2 H' : Hp} {ms ms1 ms2 ms3 ms' : MS} {ρ ρ1 ρ2 ρ' : Env'} {σ : L2.St} {e a b c tg iter : Expr} {es : List Expr} {r r' r1 r2 r3 : Rs} {rs : List Rs} {o : Out} {st : Stmt} {rest bd sts : List Stmt} {pos p : Pos} {t : Bool} {i j l : Nat} {x y z : Str} {En : Ends} {d d1 d2 d3 : D} {ds ds1 ds2 : List D}

/-! ### less is known -/
inductive LeS (n : Nat) : Sl → Sl → Prop
  | un {s : Sl} : LeS n s .un
  | dat {d : D} : LeS n (.dat d) (.dat d)
  | mu {k : Nat} (h : k < n) : LeS n (.mu k) (.mu k)
  | scr {ns : List Int} : LeS n (.scr ns) (.scr ns)
inductive LeE (n : Nat) : Env' → Env' → Prop
  | nil : LeE n [] []
  | cons {s s' : Sl} {ρ ρ' : Env'} (h : LeS n s s') (t : LeE n ρ ρ') : LeE n (s :: ρ) (s' :: ρ')
theorem LeE.get {n : Nat} : ∀ {ρ ρ' : Env'} {i : Nat} {s : Sl}, LeE n ρ ρ' → ρ'[i]? = some s → ∃ s0, ρ[i]? = some s0 ∧ LeS n s0 s
  | _, _, _, _, .nil, e => by simp at e
  | _, _, 0, _, .cons h t, e => by
    cases (Option.some.inj e : _ = _)
    exact ⟨_, rfl, h⟩
  | _, _, i + 1, s, .cons h t, e => by
    obtain ⟨s0, e0, q⟩ := LeE.get (i := i) t (by simpa using e)
    exact ⟨s0, by simpa using e0, q⟩
theorem LeE.length {n : Nat} : ∀ {ρ ρ' : Env'}, LeE n ρ ρ' → ρ.length = ρ'.length
  | _, _, .nil => rfl
  | _, _, .cons _ t => by rw [List.length_cons, List.length_cons, LeE.length t]
theorem LeS.refl {n : Nat} : ∀ {s : Sl}, (∀ k, s = .mu k → k < n) → LeS n s s
  | .un, _ => .un
  | .dat _, _ => .dat
  | .mu k, h => .mu (h k rfl)
  | .scr _, _ => .scr
theorem EnvOk.le {n : Nat} {bs : List Addr} (h : EnvOk K (as ++ bs) H σ ρ) (hn : as.length = n) (q : LeE n ρ ρ') : EnvOk K as H σ ρ' := by
  refine ⟨h.1.trans q.length, fun i s o e1 e2 => ?_⟩
  obtain ⟨s0, e0, hs⟩ := q.get e1
  have w := h.2 i s0 o e0 e2
  cases hs with
  | un => trivial
  | dat =>
    obtain ⟨v, e, w⟩ := w
    exact ⟨v, e, R.sub (fun q z => List.mem_append_left _ z) w⟩
  | mu hk =>
    obtain ⟨a, e, w⟩ := w
    refine ⟨a, e, ?_⟩
    rw [List.getElem?_append_left (by omega)] at w
    exact w
  | scr =>
    obtain ⟨a, e, w⟩ := w
    exact ⟨a, e, w.chg .refl fun q z => .inl (List.mem_append_left _ z)⟩
theorem ss_weak {ex : MS} (h : SSs S sts ρ ms (.nx ρ1 (ms1 ++ ex))) (hl : ms1.length = ms.length) (q : LeE ms1.length ρ1 ρ2) : SSs S sts ρ ms (.nx ρ2 ms1) := fun as σ H En s en k =>
  h as σ H En s en fun as' σ' H' g s' en' => by
    obtain ⟨l, rfl, n, kp⟩ := g
    have hal : as.length = ms1.length := by rw [hl]; exact s.2.1
    exact k as σ' H' (.of kp) (s'.close hal) (en'.le hal q)
theorem ss_weak_ct {ex : MS} (h : SSs S sts ρ ms (.ct ρ1 (ms1 ++ ex))) (hl : ms1.length = ms.length) (q : LeE ms1.length ρ1 ρ2) : SSs S sts ρ ms (.ct ρ2 ms1) := fun as σ H En s en k =>
  h as σ H En s en fun as' σ' H' g s' en' => by
    obtain ⟨l, rfl, n, kp⟩ := g
    have hal : as.length = ms1.length := by rw [hl]; exact s.2.1
    exact k as σ' H' (.of kp) (s'.close hal) (en'.le hal q)
theorem ss_weak_bk {ex : MS} (h : SSs S sts ρ ms (.bk ρ1 (ms1 ++ ex))) (hl : ms1.length = ms.length) (q : LeE ms1.length ρ1 ρ2) : SSs S sts ρ ms (.bk ρ2 ms1) := fun as σ H En s en k =>
  h as σ H En s en fun as' σ' H' g s' en' => by
    obtain ⟨l, rfl, n, kp⟩ := g
    have hal : as.length = ms1.length := by rw [hl]; exact s.2.1
    exact k as σ' H' (.of kp) (s'.close hal) (en'.le hal q)
theorem ss_break : SS S (.Break pos) ρ ms (.bk ρ ms) := .of (fun _ _ => ps_break) fun as σ H En s en k => k as σ H .refl s en
theorem ss_continue : SS S (.Continue pos) ρ ms (.ct ρ ms) := .of (fun _ _ => ps_continue) fun as σ H En s en k => k as σ H .refl s en
theorem ss_pass : SS S (.Pass pos) ρ ms (.nx ρ ms) := .of (fun _ _ => ps_pass) fun as σ H En s en k => k as σ H .refl s en

/-! ### what is walked -/
structure WD (S : Sx) (as : List Addr) (H1 : Hp) (J : It) (ds : List D) (G : MS → Prop) : Prop where
  go : ∀ (i : Nat) (H : Hp) (ms : MS), i < ds.length → Kp (S.T as) H1 H → SR S.K as H ms → G ms → J.go i H
  stop : ∀ (H : Hp) (ms : MS), Kp (S.T as) H1 H → SR S.K as H ms → G ms → J.stop ds.length H
  yld : ∀ (i : Nat) (H : Hp) (ms : MS) (v : V) (H' : Hp), i < ds.length → Kp (S.T as) H1 H → SR S.K as H ms → G ms → J.yld i H v H' → Kp (fun _ => False) H H' ∧ SR S.K as H' ms ∧ ∃ d, ds[i]? = some d ∧ R S.K as H' v d
def cI (S : Sx) (tg iter : Expr) : TI := fun σ H Rr => ∃ w : TI, (∀ X, InS S X → PI X tg iter w) ∧ w σ H Rr
theorem pi_c {X : Cx} (h : InS S X) (tg iter : Expr) : PI X tg iter (cI S tg iter) := ⟨fun pins s σ H Rr I ⟨te, p, q⟩ => (p X h).run pins s σ H Rr I q⟩
def IT (S : Sx) (tg iter : Expr) (ρ : Env') (ms : MS) (ds : List D) (ms1 : MS) (G : MS → Prop) : Prop := ∀ (as : List Addr) (σ : L2.St) (H : Hp) (Rr : It → Hp → Prop), SR S.K as H ms → EnvOk S.K as H σ ρ →
  (∀ J H1, Kp (S.T as) H H1 → SR S.K as H1 ms1 → (∀ (l : List Addr) (H1' : Hp), (∀ q ∈ l, H1 q = none) → Kq as H1 H1' → WD S (as ++ l) H1' J ds G) → Rr J H1) → cI S tg iter σ H Rr
theorem RsOk.ext {H0 : Hp} {v : V} {l : List Addr} (k : Kq as H H') (hl : ∀ q ∈ l, H q = none) (h : RsOk K as H0 H v r) : RsOk K (as ++ l) H0 H' v r := by
  have sb : ∀ q ∈ as ++ l, q ∈ as ∨ H q = none := fun q z => (List.mem_append.mp z).imp id (hl q)
  cases r with
  | dat d => exact R.chg k sb _ _ h
  | mu k' =>
    obtain ⟨a, e, q⟩ := h
    exact ⟨a, e, by rw [List.getElem?_append_left (List.getElem?_eq_some_iff.mp q).1]; exact q⟩
  | new ds =>
    obtain ⟨p, xs, e, n, np, hp, q⟩ := h
    refine ⟨p, xs, e, n, fun z => ?_, k p _ np hp, RA.chg (as := p :: as) (k.sub fun a z => List.mem_cons_of_mem _ z) (fun q z => ?_) _ _ q⟩
    · rcases List.mem_append.mp z with z | z
      · exact np z
      · rw [hl p z] at hp; cases hp
    · rcases List.mem_cons.mp z with z | z
      · exact .inl (by rw [z]; exact List.mem_cons_self)
      · exact (sb q z).imp (fun w => List.mem_cons_of_mem _ w) id
  | scr ns => obtain ⟨a, e, q⟩ := h; exact ⟨a, e, q.chg k sb⟩
  | ty T => exact h
theorem it_list (hp : ∀ X : Cx, ∀ t : TE, PE X e t → PI X tg e (iList X.K t)) (he : EE S e ρ ms r ms1) (hl : lres ms1 r = some ds) : IT S tg e ρ ms ds ms1 (fun m => lres m r = some ds) := fun as σ H Rr s en k =>
  ⟨iList S.K (cE S e), fun X hX => by have h := hp X _ (pe_c hX e); rw [hX.k] at h; exact h, he as σ H _ s en fun v H1 k1 s1 q1 => by
    obtain ⟨a, xs, rfl, hq, ra⟩ := q1.lst s1 hl
    refine ⟨a, rfl, ⟨xs, hq⟩, k _ H1 k1 s1 fun l H1' hl' kq => ?_⟩
    have at_ : ∀ (H2 : Hp) (m : MS), Kp (S.T (as ++ l)) H1' H2 → SR S.K (as ++ l) H2 m → lres m r = some ds → ∃ xs, SqL S.K H2 a xs ∧ RA S.K (as ++ l) H2 xs ds := fun H2 m k2 s2 g2 => by
      obtain ⟨a', ys, e, h1, h2⟩ := ((q1.ext kq hl').kp k2).lst s2 g2
      cases e
      exact ⟨ys, h1, h2⟩
    refine ⟨fun i H2 m hi k2 s2 g2 => ?_, fun H2 m k2 s2 g2 => ?_, fun i H2 m v H3 hi k2 s2 g2 hy => ?_⟩
    · obtain ⟨ys, h1, h2⟩ := at_ H2 m k2 s2 g2
      obtain ⟨v, e1, _⟩ := h2.get (List.getElem?_eq_getElem hi)
      exact ⟨ys, v, h1, e1⟩
    · obtain ⟨ys, h1, h2⟩ := at_ H2 m k2 s2 g2
      exact ⟨ys, h1, by rw [h2.length]; exact Nat.le_refl _⟩
    · obtain ⟨ys, h1, h2⟩ := at_ H2 m k2 s2 g2
      obtain ⟨rfl, hy⟩ := hy
      obtain ⟨d, e1, e2⟩ := h2.get' (hy ys h1)
      exact ⟨.refl, s2, d, e1, e2⟩⟩
theorem it_tup (hp : ∀ X : Cx, ∀ t : TE, PE X e t → PI X tg e (iTup X.K t)) (he : EE S e ρ ms (.dat (.tuple ds)) ms1) : IT S tg e ρ ms ds ms1 (fun _ => True) := fun as σ H Rr s en k =>
  ⟨iTup S.K (cE S e), fun X hX => by have h := hp X _ (pe_c hX e); rw [hX.k] at h; exact h, he as σ H _ s en fun v H1 k1 s1 q1 => by
    obtain ⟨a, xs, rfl, hq, ra⟩ := q1.tup
    refine ⟨a, rfl, ⟨xs, hq⟩, k _ H1 k1 s1 fun l H1' hl' kq => ?_⟩
    have at_ : ∀ (H2 : Hp), Kp (S.T (as ++ l)) H1' H2 → ∃ xs, SqT S.K H2 a xs ∧ RA S.K (as ++ l) H2 xs ds := fun H2 k2 => by
      obtain ⟨a', ys, e, h1, h2⟩ := ((q1.ext kq hl').kp k2).tup
      cases e
      exact ⟨ys, h1, h2⟩
    refine ⟨fun i H2 m hi k2 s2 g2 => ?_, fun H2 m k2 s2 g2 => ?_, fun i H2 m v H3 hi k2 s2 g2 hy => ?_⟩
    · obtain ⟨ys, h1, h2⟩ := at_ H2 k2
      obtain ⟨v, e1, _⟩ := h2.get (List.getElem?_eq_getElem hi)
      exact ⟨ys, v, h1, e1⟩
    · obtain ⟨ys, h1, h2⟩ := at_ H2 k2
      exact ⟨ys, h1, by rw [h2.length]; exact Nat.le_refl _⟩
    · obtain ⟨ys, h1, h2⟩ := at_ H2 k2
      obtain ⟨rfl, hy⟩ := hy
      obtain ⟨d, e1, e2⟩ := h2.get' (hy ys h1)
      exact ⟨.refl, s2, d, e1, e2⟩⟩
def rngD (lo : Int) (n : Nat) : List D := (List.range n).map fun i => .int (lo + (i : Nat))
theorem WD.rng {lo : Int} {n : Nat} : WD S as H1 (Itr lo n) (rngD lo n) (fun _ => True) := ⟨fun i H m hi _ _ _ => by
    show i < n
    unfold rngD at hi; simpa using hi, fun H m _ _ _ => by
    show n ≤ (rngD lo n).length
    unfold rngD; simp, fun i H m v H' hi _ s _ hy => by
    obtain ⟨rfl, rfl⟩ := hy
    have hi : i < n := by unfold rngD at hi; simpa using hi
    refine ⟨.refl, s, .int (lo + (i : Nat)), ?_, by unfold R; rfl⟩
    unfold rngD
    rw [List.getElem?_map, List.getElem?_range hi]; rfl⟩
theorem it_rng1 {n : Int} (hm : S.mg "range" = none) (hg : S.sc.names.lookup (Str.ofString "range") = some .globalImplicit) (hs : ∀ X : Cx, ∀ t : TA, PA X [a] t → Gl X "range" → X.mg "range" = none → PI X tg (.Call (.Name "range" p) [a] [] pos) (iRng1 t))
    (ha : EA S [a] ρ ms [.dat (.int n)] ms1) (hn : -(2 ^ 62) ≤ n ∧ n < 2 ^ 62) : IT S tg (.Call (.Name "range" p) [a] [] pos) ρ ms (rngD 0 n.toNat) ms1 (fun _ => True) := fun as σ H Rr s en k =>
  ⟨iRng1 (cA S [a]), fun X hX => hs X _ (pa_c hX [a]) (hX.gl hg) (by rw [hX.mg]; exact hm), ha as σ H _ s en fun vs H1 k1 s1 q1 => by
    obtain ⟨v, rfl, q2⟩ := rs1 q1
    exact ⟨n, by rw [q2.int], hn.1, hn.2, k _ H1 k1 s1 fun _ _ _ _ => .rng⟩⟩
theorem it_rng2 {m n : Int} (hm : S.mg "range" = none) (hg : S.sc.names.lookup (Str.ofString "range") = some .globalImplicit) (hs : ∀ X : Cx, ∀ t : TA, PA X [a, b] t → Gl X "range" → X.mg "range" = none → PI X tg (.Call (.Name "range" p) [a, b] [] pos) (iRng2 t))
    (ha : EA S [a, b] ρ ms [.dat (.int m), .dat (.int n)] ms1) (hn : -(2 ^ 62) ≤ m ∧ m < 2 ^ 62 ∧ -(2 ^ 62) ≤ n ∧ n < 2 ^ 62) : IT S tg (.Call (.Name "range" p) [a, b] [] pos) ρ ms (rngD m (n - m).toNat) ms1 (fun _ => True) := fun as σ H Rr s en k =>
  ⟨iRng2 (cA S [a, b]), fun X hX => hs X _ (pa_c hX _) (hX.gl hg) (by rw [hX.mg]; exact hm), ha as σ H _ s en fun vs H1 k1 s1 q1 => by
    obtain ⟨v, u, rfl, q2, q3⟩ := rs2 q1
    exact ⟨m, n, by rw [q2.int, q3.int], hn, k _ H1 k1 s1 fun _ _ _ _ => .rng⟩⟩

/-! ### for, while -/
inductive Lo (τ β : Type) where
  | go (s : τ) | brk (s : τ) | ret (b : β)
def forL {α τ β : Type} (body : α → τ → Option (Lo τ β)) : List α → τ → Option (Lo τ β)
  | [], s => some (.brk s)
  | x :: xs, s => (body x s).bind fun o => match o with
    | .go s' => forL body xs s'
    | o => some o
def whileL {τ β : Type} (c : τ → Option Bool) (body : τ → Option (Lo τ β)) : Nat → τ → Option (Lo τ β)
  | 0, _ => none
  | n + 1, s => (c s).bind fun t => if t = true then (body s).bind fun o => match o with
    | .go s' => whileL c body n s'
    | o => some o else some (.brk s)
/-- what a turn leads to -/
def LoOut {τ β : Type} (S : Sx) (bd : List Stmt) (ρ : Env') (ms : MS) (env : τ → Env') (mst : τ → MS) (rr : β → Rs) (mr : β → MS) : Lo τ β → Prop
  | .go s => SSs S bd ρ ms (.nx (env s) (mst s)) ∨ SSs S bd ρ ms (.ct (env s) (mst s))
  | .brk s => SSs S bd ρ ms (.bk (env s) (mst s))
  | .ret b => SSs S bd ρ ms (.rt (rr b) (mr b))
def loEnd {τ β : Type} (env : τ → Env') (mst : τ → MS) (rr : β → Rs) (mr : β → MS) : Lo τ β → Out
  | .go s => .nx (env s) (mst s)
  | .brk s => .nx (env s) (mst s)
  | .ret b => .rt (rr b) (mr b)
theorem Gr.same (g : Gr S as H as1 H1) (hl : as1.length = as.length) : as1 = as := by
  obtain ⟨l, rfl, _, _⟩ := g
  rw [List.length_append] at hl
  have : l = [] := List.length_eq_zero_iff.mp (by omega)
  rw [this, List.append_nil]
theorem ss_for {α τ β : Type} (hfs : ∀ env x, foldedSetIterable iter env x = pure x) (hp : ∀ X : Cx, X.xe = (fun _ _ => False) → PassesOwn (model X.prog X.w) X.A X.env X.xe) (emb : α → D) (xs : List α) (body : α → τ → Option (Lo τ β)) (env : τ → Env') (mst : τ → MS) (rr : β → Rs) (mr : β → MS) (n : Nat) {G : MS → Prop} {s0 : τ} {oo : Lo τ β}
    (hi : IT S tg iter ρ ms (xs.map emb) (mst s0) G) (hG : ∀ s, G (mst s)) (hn : ∀ s, (mst s).length = n) (h0 : LeE n ρ (env s0))
    (hb : ∀ x ∈ xs, ∀ s o, body x s = some o → ∃ ρx sl, EG S tg (emb x) (env s) ρx sl ∧ LoOut S bd ρx (mst s) env mst rr mr o)
    (hf : forL body xs s0 = some oo) : SS S (.For tg iter bd [] pos) ρ ms (loEnd env mst rr mr oo) :=
  .of (ts := tFor (cI S tg iter) (cG S tg) (cSs S bd)) (fun X hX => ps_for (hp X hX.xe) hX.calm (pi_c hX _ _) (pg_c hX _) (pss_c hX _) (hfs _)) fun as σ H En s en k => hi as σ H _ s en fun J H1 k1 s1 w0 => by
    have w := w0 [] H1 (fun _ z => by simp at z) .refl
    rw [List.append_nil] at w
    have hal : as.length = n := by rw [s1.2.1]; exact hn s0
    refine ⟨fun i m σ' H' => m = xs.length - i ∧ i ≤ xs.length ∧ ∃ s, forL body (xs.drop i) s = some oo ∧ Kp (S.T as) H1 H' ∧ SR S.K as H' (mst s) ∧ EnvOk S.K as H' σ' (env s),
      ⟨xs.length, by simp, Nat.zero_le _, s0, by simpa using hf, .refl, s1, EnvOk.le (bs := []) (by rw [List.append_nil]; exact en.kp k1) hal h0⟩, ?_⟩
    rintro i m σ' H' ⟨rfl, hi', s', hf', k2, s2, en2⟩
    by_cases hlt : i < xs.length
    · refine .inr ⟨w.go i H' _ (by simpa using hlt) k2 s2 (hG _), ?_⟩
      have hd : xs.drop i = xs[i] :: xs.drop (i + 1) := List.drop_eq_getElem_cons hlt
      rw [hd] at hf'
      unfold forL at hf'
      cases hbo : body xs[i] s' with
      | none => rw [hbo] at hf'; cases hf'
      | some o =>
        rw [hbo] at hf'
        obtain ⟨ρx, sl, eg, lo⟩ := hb xs[i] (List.getElem_mem hlt) s' o hbo
        refine ⟨fun σ3 H3 => ∃ s, forL body (xs.drop (i + 1)) s = some oo ∧ Kp (S.T as) H1 H3 ∧ SR S.K as H3 (mst s) ∧ EnvOk S.K as H3 σ3 (env s), fun σ3 H3 h3 => ⟨xs.length - (i + 1), by omega, rfl, hlt, h3⟩, fun v H2 hy => ?_⟩
        obtain ⟨k3, s3, d, hd1, hd2⟩ := w.yld i H' _ v H2 (by simpa using hlt) k2 s2 (hG _) hy
        have hde : d = emb xs[i] := by
          rw [List.getElem?_map, List.getElem?_eq_getElem hlt] at hd1
          exact (Option.some.inj hd1).symm
        rw [hde] at hd2
        refine eg as σ' H2 v _ (en2.kp (k3.f (T := S.T as))) hd2 fun σ4 en4 _ => ?_
        have kk : Kp (S.T as) H1 H2 := k2.trans k3.f
        cases o with
        | go s4 =>
          have hf' : forL body (xs.drop (i + 1)) s4 = some oo := hf'
          rcases lo with lo | lo
          · refine lo as σ4 H2 _ s3 en4 fun as' σ5 H5 g5 s5 en5 => ?_
            have e := g5.same (by rw [s5.2.1, hn, hal])
            subst e
            obtain ⟨_, _, _, kq⟩ := g5
            exact ⟨s4, hf', kk.trans kq, s5, en5⟩
          · refine lo as σ4 H2 _ s3 en4 fun as' σ5 H5 g5 s5 en5 => ?_
            have e := g5.same (by rw [s5.2.1, hn, hal])
            subst e
            obtain ⟨_, _, _, kq⟩ := g5
            exact ⟨s4, hf', kk.trans kq, s5, en5⟩
        | brk s4 =>
          cases (Option.some.inj hf' : _ = oo)
          refine lo as σ4 H2 _ s3 en4 fun as' σ5 H5 g5 s5 en5 => ?_
          exact k as' σ5 H5 (Gr.trans s s3 (.of (k1.trans kk)) g5) s5 en5
        | ret b =>
          cases (Option.some.inj hf' : _ = oo)
          refine lo as σ4 H2 _ s3 en4 fun as' v5 H5 g5 s5 q5 => ?_
          exact k as' v5 H5 (Gr.trans s s3 (.of (k1.trans kk)) g5) s5 (q5.gback s s3 (.of (k1.trans kk)))
    · have e : i = xs.length := by omega
      subst e
      rw [List.drop_length] at hf'
      unfold forL at hf'
      cases (Option.some.inj hf' : _ = oo)
      refine .inl ⟨by have := w.stop H' _ k2 s2 (hG _); rw [List.length_map] at this; exact this, ?_⟩
      exact k as σ' H' (.of (k1.trans k2)) s2 en2
theorem ss_while {τ β : Type} (hp : ∀ X : Cx, X.xe = (fun _ _ => False) → PassesOwn (model X.prog X.w) X.A X.env X.xe) (cm : τ → Option Bool) (body : τ → Option (Lo τ β)) (env : τ → Env') (mst : τ → MS) (rr : β → Rs) (mr : β → MS) (n : Nat) {s0 : τ} {oo : Lo τ β} (N : Nat)
    (hms : ms = mst s0) (hn : ∀ s, (mst s).length = n) (h0 : LeE n ρ (env s0)) (hc : ∀ s t, cm s = some t → ET S c (env s) (mst s) t (mst s))
    (hb : ∀ s o, cm s = some true → body s = some o → LoOut S bd (env s) (mst s) env mst rr mr o)
    (hf : whileL cm body N s0 = some oo) : SS S (.While c bd [] pos) ρ ms (loEnd env mst rr mr oo) :=
  .of (ts := tWhile (cT S c) (cSs S bd)) (fun X hX => ps_while (hp X hX.xe) (pt_c hX _) (pss_c hX _)) fun as σ H En s en k => by
    subst hms
    have hal : as.length = n := by rw [s.2.1]; exact hn s0
    refine ⟨fun m σ' H' => ∃ s, whileL cm body m s = some oo ∧ Kp (S.T as) H H' ∧ SR S.K as H' (mst s) ∧ EnvOk S.K as H' σ' (env s), ⟨N, s0, hf, .refl, s, EnvOk.le (bs := []) (by rw [List.append_nil]; exact en) hal h0⟩, ?_⟩
    rintro m σ' H' ⟨s', hf', k2, s2, en2⟩
    cases m with
    | zero => cases hf'
    | succ m =>
      unfold whileL at hf'
      cases hcs : cm s' with
      | none => rw [hcs] at hf'; cases hf'
      | some t =>
        rw [hcs] at hf'
        refine hc s' t hcs as σ' H' _ s2 en2 fun H3 k3 s3 => ?_
        have kk : Kp (S.T as) H H3 := k2.trans k3
        cases t with
        | false =>
          cases (Option.some.inj hf' : _ = oo)
          exact iteF (k as σ' H3 (.of kk) s3 (en2.kp k3))
        | true =>
          refine iteT ?_
          have hf' : ((body s').bind fun o => match o with
            | .go s' => whileL cm body m s'
            | o => some o) = some oo := hf'
          cases hbo : body s' with
          | none => rw [hbo] at hf'; cases hf'
          | some o =>
            rw [hbo] at hf'
            have lo := hb s' o hcs hbo
            refine ⟨fun σ3 H3 => ∃ s, whileL cm body m s = some oo ∧ Kp (S.T as) H H3 ∧ SR S.K as H3 (mst s) ∧ EnvOk S.K as H3 σ3 (env s), fun σ3 H3 h3 => ⟨m, Nat.lt_succ_self _, h3⟩, ?_⟩
            cases o with
            | go s4 =>
              have hf' : whileL cm body m s4 = some oo := hf'
              rcases lo with lo | lo
              · refine lo as σ' H3 _ s3 (en2.kp k3) fun as' σ5 H5 g5 s5 en5 => ?_
                have e := g5.same (by rw [s5.2.1, hn, hal])
                subst e
                obtain ⟨_, _, _, kq⟩ := g5
                exact ⟨s4, hf', kk.trans kq, s5, en5⟩
              · refine lo as σ' H3 _ s3 (en2.kp k3) fun as' σ5 H5 g5 s5 en5 => ?_
                have e := g5.same (by rw [s5.2.1, hn, hal])
                subst e
                obtain ⟨_, _, _, kq⟩ := g5
                exact ⟨s4, hf', kk.trans kq, s5, en5⟩
            | brk s4 =>
              cases (Option.some.inj hf' : _ = oo)
              refine lo as σ' H3 _ s3 (en2.kp k3) fun as' σ5 H5 g5 s5 en5 => ?_
              exact k as' σ5 H5 (Gr.trans s s3 (.of kk) g5) s5 en5
            | ret b =>
              cases (Option.some.inj hf' : _ = oo)
              refine lo as σ' H3 _ s3 (en2.kp k3) fun as' v5 H5 g5 s5 q5 => ?_
              exact k as' v5 H5 (Gr.trans s s3 (.of kk) g5) s5 (q5.gback s s3 (.of kk))
end
end Abs
namespace Abs
open PySem PySem.Spec PyProof.Rows L2
section
variable {S : Sx} {K : PySem.W.Frag} {as as1 as2 : List Addr} {H H1 H2 H' : Hp} {ms ms1 ms2 ms3 ms' : MS} {ρ ρ1 ρ2 ρ' : Env'} {σ : L2.St} {e a b c tg iter elt : Expr} {es ifs : List Expr} {r r' r1 r2 r3 : Rs} {rs : List Rs} {o : Out} {st : Stmt} {rest bd sts : List Stmt} {pos p : Pos} {t : Bool} {i j l : Nat} {x y z : Str} {En : Ends} {d d1 d2 d3 : D} {ds ds1 ds2 : List D}

/-! ### list comprehensions -/
def Sx.blk (S : Sx) (scope : Scope) : Sx := { S with sc := relS scope S.sc, cl := fun x => scope.names.lookup x == some .cell }
theorem InS.blk {X : Cx} (h : InS S X) (scope : Scope) (s : Shared) (H : Hp) (C : Addr) (cl : List (Str × Addr)) (fp : List Addr) : InS (S.blk scope) (X.blk s H scope (compEnvC scope cl C X.env) fp) :=
  ⟨h.n, by show relabel scope X.env = relS scope S.sc
           rw [← h.sc]; rfl, h.k, h.mg, h.p, h.w, h.base, h.calm, h.room, fun x hx => hx, rfl⟩
def cP (S : Sx) (ifs : List Expr) : TT := fun σ H Q => ∃ te : TT, (∀ X, InS S X → PTs X ifs te) ∧ te σ H Q
theorem pts_c {X : Cx} (h : InS S X) (ifs : List Expr) : PTs X ifs (cP S ifs) := ⟨fun pins s σ H Q I ⟨te, p, q⟩ => (p X h).run pins s σ H Q I q⟩
def EP' (S : Sx) (ifs : List Expr) (ρ : Env') (ms : MS) (b : Bool) (ms' : MS) : Prop := EVb S (cP S ifs) ρ ms b ms'
theorem ep_nil : EP' S [] ρ ms true ms := fun as σ H Q s en k => ⟨tYes, fun _ _ => pts_nil, k H .refl s⟩
theorem ep_one (h : ET S c ρ ms t ms') : EP' S [c] ρ ms t ms' := fun as σ H Q s en k => ⟨cT S c, fun X hX => pts_one (pt_c hX c), h as σ H Q s en k⟩
def wipeE (ρ : Env') : List Nat → Env'
  | [] => ρ
  | v :: vs => (wipeE ρ vs).set v .un
theorem EnvOk.setN (h : EnvOk K as H σ ρ) : EnvOk K as H (σ.set i none) (ρ.set i .un) := by
  refine ⟨by simp [h.1], fun j s o e1 e2 => ?_⟩
  by_cases hj : i = j
  · subst hj
    have hl : i < ρ.length := by
      have := (List.getElem?_eq_some_iff.mp e1).1
      simpa using this
    rw [List.getElem?_set_self hl] at e1
    cases e1; trivial
  · rw [List.getElem?_set_ne hj] at e1 e2
    exact h.2 j s o e1 e2
theorem EnvOk.wipe (h : EnvOk K as H σ ρ) : ∀ vs : List Nat, EnvOk K as H (wipe σ vs) (wipeE ρ vs)
  | [] => h
  | v :: vs => by unfold L2.wipe wipeE; exact (EnvOk.wipe h vs).setN
theorem wipe_get {vs : List Nat} : ∀ {i : Nat}, i ∉ vs → (wipe σ vs)[i]? = σ[i]? := by
  induction vs with
  | nil => intro i _; rfl
  | cons v vs ih =>
    intro i h
    unfold L2.wipe
    rw [List.getElem?_set_ne (fun z => h (by simp [z])), ih fun z => h (List.mem_cons_of_mem _ z)]
theorem wipe_get' {vs : List Nat} : ∀ {i : Nat}, i ∈ vs → i < σ.length → (wipe σ vs)[i]? = some none := by
  induction vs with
  | nil => intro i h; simp at h
  | cons v vs ih =>
    intro i h hl
    unfold L2.wipe
    by_cases hv : v = i
    · subst hv
      rw [List.getElem?_set_self (by rw [wipe_length]; exact hl)]
    · rw [List.getElem?_set_ne hv]
      exact ih ((List.mem_cons.mp h).resolve_left fun z => hv z.symm) hl
theorem But.wipe {σ' : L2.St} {sl vs : List Nat} (h : But sl (wipe σ vs) σ') (hs : ∀ i ∈ sl, i ∈ vs) : L2.wipe σ' vs = L2.wipe σ vs := by
  have hlen : σ'.length = σ.length := by rw [h.1, wipe_length]
  apply List.ext_getElem?
  intro i
  by_cases hi : i ∈ vs
  · by_cases hl : i < σ.length
    · rw [wipe_get' hi (by omega), wipe_get' hi hl]
    · rw [List.getElem?_eq_none (by rw [wipe_length]; omega), List.getElem?_eq_none (by rw [wipe_length]; omega)]
  · rw [wipe_get hi, h.2 i fun z => hi (hs i z)]
/-- the same, made in turns -/
def fmL {α τ β : Type} (m : α → τ → Option (Option β × τ)) : List α → τ → Option (List β × τ)
  | [], s => some ([], s)
  | x :: xs, s => (m x s).bind fun o => (fmL m xs o.2).map fun q => (match o.1 with | none => q.1 | some y => y :: q.1, q.2)
/-- one turn of a comprehension -/
def LcTurn {α τ β : Type} (S : Sx) (tg elt : Expr) (ifs : List Expr) (ρ : Env') (vs : List Nat) (emb : α → D) (emb' : β → D) (mst : τ → MS) (x : α) (s : τ) (o : Option β) (s' : τ) (ex : MS) : Prop :=
  ∃ (ρx : Env') (sl : List Nat), (∀ i ∈ sl, i ∈ vs) ∧ EG S tg (emb x) ρ ρx sl ∧ ∃ msb, EP' S ifs ρx (mst s ++ ex) o.isSome msb ∧
    match o with
    | none => msb = mst s' ++ ex
    | some y => ∃ r, EE S elt ρx msb r (mst s' ++ ex) ∧ frz r = some (emb' y)
theorem Gr.tsub {l : List Addr} (hf : ∀ q ∈ l, H1 q = none) (k : Kp ((S.T (as ++ l))) H1 H2) : Kp (S.T as) H1 H2 := fun b o nb e => k b o (fun z => by
  rcases Sx.T_app z with z | z
  · exact nb z
  · rw [hf b z] at e; cases e) e
theorem evt_lc {α τ β : Type} {scope : Scope} {vs : List Nat} (emb : α → D) (emb' : β → D) (xs : List α) (m : α → τ → Option (Option β × τ)) (mst : τ → MS) (n : Nat) {G : MS → Prop} {s0 s1 : τ} {ys : List β}
    (hi : IT S tg iter ρ ms (xs.map emb) (mst s0) G) (hG : ∀ s ex, G (mst s ++ ex)) (hn : ∀ s, (mst s).length = n)
    (hb : ∀ x ∈ xs, ∀ s o s' ex, m x s = some (o, s') → LcTurn (S.blk scope) tg elt ifs (wipeE ρ vs) vs emb emb' mst x s o s' ex)
    (hf : fmL m xs s0 = some (ys, s1)) (hz : xs.length ≤ sizeLine) (hn0 : S.n0 ≤ n) :
    EVt S (tLc (cI S tg iter) (cG (S.blk scope) tg) (cP (S.blk scope) ifs) (cE (S.blk scope) elt) vs) ρ ms (.new (ys.map emb')) (mst s1) := fun as σ H Q s en k => hi as σ H _ s en fun J H1 k1 s1' w0 Dl hD => by
  have hal : as.length = n := by rw [s1'.2.1]; exact hn s0
  have hDs : ∀ q ∈ [Dl], H1 q = none := fun q z => by rw [List.mem_singleton.mp z]; exact hD
  have w := w0 [Dl] (upd H1 Dl (.lst [])) hDs (.new hD)
  have hDas : Dl ∉ as := s1'.notin hD
  -- fmL with what is made so far
  have step : ∀ (xs : List α) (s : τ) (acc : List β) (x : α), ∀ q, fmL m (x :: xs) s = some q → ∃ o s', m x s = some (o, s') ∧ ∃ q', fmL m xs s' = some q' ∧ q = (match o with | none => q'.1 | some y => y :: q'.1, q'.2) := by
    intro xs s acc x q h
    unfold fmL at h
    cases hm : m x s with
    | none => rw [hm] at h; cases h
    | some o =>
      rw [hm] at h
      have h : ((fmL m xs o.2).map fun q => (match o.1 with | none => q.1 | some y => y :: q.1, q.2)) = some q := h
      cases hq : fmL m xs o.2 with
      | none => rw [hq] at h; cases h
      | some q' =>
        rw [hq] at h
        exact ⟨o.1, o.2, rfl, q', hq, (Option.some.inj h).symm⟩
  have hnd : (as ++ [Dl]).length = n + 1 := by simp [hal]
  refine ⟨fun i mm H' => mm = xs.length - i ∧ i ≤ xs.length ∧ ∃ (s : τ) (acc : List β) (q : List β × τ), acc.length ≤ i ∧ fmL m (xs.drop i) s = some q ∧ acc ++ q.1 = ys ∧ q.2 = s1 ∧ Kp (S.T (as ++ [Dl])) (upd H1 Dl (.lst [])) H' ∧ SR S.K (as ++ [Dl]) H' (mst s ++ [acc.map emb']) ∧ EnvOk S.K (as ++ [Dl]) H' (L2.wipe σ vs) (wipeE ρ vs),
    ⟨xs.length, by simp, Nat.zero_le _, s0, [], (ys, s1), Nat.le_refl _, by simpa using hf, by simp, rfl, .refl, ?_, ?_⟩, ?_⟩
  · exact SR.open (s1'.new hD) hDas upd_same RA.nil fun k' a' es e1 e2 => by
      obtain ⟨zs, z1, z2⟩ := s1'.2.2 k' a' es e1 e2
      exact ⟨zs, by rw [upd_ne (ne_of_none z1 hD)]; exact z1, RA.chg (.new hD) (fun q z => (List.mem_cons.mp z).elim (fun e => .inr (by rw [e]; exact hD)) .inl) _ _ z2⟩
  · exact EnvOk.wipe ((en.kp k1).gr (.new hD) ⟨[Dl], rfl, hDs⟩) vs
  · rintro i mm H' ⟨rfl, hi', s, acc, q, hacc, hf', hys, hq2, k2, s2, en2⟩
    have kH : Kp (S.T as) H1 H' := by
      refine Gr.tsub hDs (fun b o nb e => k2 b o nb ?_)
      rw [upd_ne (ne_of_none e hD)]; exact e
    by_cases hlt : i < xs.length
    · refine .inr ⟨w.go i H' _ (by simpa using hlt) k2 s2 (hG _ _), ?_⟩
      have hd : xs.drop i = xs[i] :: xs.drop (i + 1) := List.drop_eq_getElem_cons hlt
      rw [hd] at hf'
      obtain ⟨o, s', hm, q', hq', rfl⟩ := step _ _ acc _ _ hf'
      refine ⟨fun H3 => ∃ (s : τ) (acc : List β) (q : List β × τ), acc.length ≤ i + 1 ∧ fmL m (xs.drop (i + 1)) s = some q ∧ acc ++ q.1 = ys ∧ q.2 = s1 ∧ Kp (S.T (as ++ [Dl])) (upd H1 Dl (.lst [])) H3 ∧ SR S.K (as ++ [Dl]) H3 (mst s ++ [acc.map emb']) ∧ EnvOk S.K (as ++ [Dl]) H3 (L2.wipe σ vs) (wipeE ρ vs),
        fun H3 h3 => ⟨xs.length - (i + 1), by omega, rfl, hlt, h3⟩, fun v H2 hy => ?_⟩
      obtain ⟨k3, s3, d, hd1, hd2⟩ := w.yld i H' _ v H2 (by simpa using hlt) k2 s2 (hG _ _) hy
      have hde : d = emb xs[i] := by
        rw [List.getElem?_map, List.getElem?_eq_getElem hlt] at hd1
        exact (Option.some.inj hd1).symm
      rw [hde] at hd2
      obtain ⟨ρx, sl, hsl, eg, msb, ep, he⟩ := hb xs[i] (List.getElem_mem hlt) s o s' [acc.map emb'] hm
      have en3 : EnvOk S.K (as ++ [Dl]) H2 (L2.wipe σ vs) (wipeE ρ vs) := en2.kp (S := S) k3.f
      refine eg (as ++ [Dl]) (L2.wipe σ vs) H2 v _ en3 hd2 fun σ4 en4 hbut => ⟨hbut.wipe hsl, ?_⟩
      refine ep (as ++ [Dl]) σ4 H2 _ s3 en4 fun H5 k5 s5 => ?_
      have k5' : Kp (S.T (as ++ [Dl])) H2 H5 := k5
      have kk : Kp (S.T (as ++ [Dl])) (upd H1 Dl (.lst [])) H5 := (k2.trans k3.f).trans k5'
      cases o with
      | none =>
        have he : msb = mst s' ++ [acc.map emb'] := he
        refine iteF ⟨s', acc, q', by omega, hq', hys, hq2, kk, ?_, (en3.kp k5')⟩
        rw [← he]; exact s5
      | some y =>
        obtain ⟨r, he, hr⟩ := he
        refine iteT (he (as ++ [Dl]) σ4 H5 _ s5 (en4.kp (S := S) k5') fun v6 H6 k6 s6 q6 => ?_)
        have k6' : Kp (S.T (as ++ [Dl])) H5 H6 := k6
        have eD : (as ++ [Dl])[n]? = some Dl := by
          rw [List.getElem?_append_right (by omega), hal, Nat.sub_self]; rfl
        have eM : (mst s' ++ [acc.map emb'])[n]? = some (acc.map emb') := by
          rw [List.getElem?_append_right (by rw [hn]; exact Nat.le_refl _), hn, Nat.sub_self]; rfl
        obtain ⟨ws, z1, z2⟩ := s6.2.2 n Dl _ eD eM
        refine ⟨ws, z1, by rw [z2.length, List.length_map]; omega, s', acc ++ [y], q', by simp; omega, hq', by rw [← hys]; simp, hq2, (kk.trans k6').trans (.mut ⟨n, eD, ?_⟩), ?_, ((en3.kp k5').kp (S := S) k6').kp (S := S) (.mut ⟨n, eD, ?_⟩)⟩
        · exact .inl hn0
        · have h7 := s6.set eD (z2.app (RA.cons (q6.frz hr) RA.nil))
          have e8 : (mst s' ++ [acc.map emb']).set n (acc.map emb' ++ [emb' y]) = mst s' ++ [(acc ++ [y]).map emb'] := by
            rw [List.set_append_right _ _ (by rw [hn]; exact Nat.le_refl _), hn, Nat.sub_self]
            simp
          rw [e8] at h7
          exact h7
        · exact .inl hn0
    · have e : i = xs.length := by omega
      subst e
      rw [List.drop_length] at hf'
      unfold fmL at hf'
      cases (Option.some.inj hf' : _ = q)
      refine .inl ⟨by have := w.stop H' _ k2 s2 (hG _ _); rw [List.length_map] at this; exact this, ?_⟩
      have eD : (as ++ [Dl])[n]? = some Dl := by
        rw [List.getElem?_append_right (by omega), hal, Nat.sub_self]; rfl
      have eM : (mst s ++ [acc.map emb'])[n]? = some (acc.map emb') := by
        rw [List.getElem?_append_right (by rw [hn]; exact Nat.le_refl _), hn, Nat.sub_self]; rfl
      obtain ⟨ws, z1, z2⟩ := s2.2.2 n Dl _ eD eM
      have hsc : SR S.K as H' (mst s) := s2.close (by rw [hn]; exact hal)
      have hs1 : s = s1 := hq2
      have hya : acc = ys := by rw [← hys]; simp
      subst hs1 hya
      exact k _ H' (k1.trans kH) hsc ⟨Dl, ws, rfl, fresh_back' s1' k1 hD, hDas, z1, RA.sub (fun q z => by
        rcases List.mem_cons.mp z with z | z
        · rw [z]; simp
        · exact List.mem_append_left _ z) z2⟩
theorem ee_lc {α τ β : Type} {scope : Scope} (own : List (Str × Nat)) (emb : α → D) (emb' : β → D) (xs : List α) (m : α → τ → Option (Option β × τ)) (mst : τ → MS) (n : Nat) {G : MS → Prop} {s0 s1 : τ} {ys : List β}
    (hN : S.N.Nodup) (ok : BlkOk S.N S.sc scope own) (hfs : ∀ env x, foldedSetIterable iter env x = pure x) (hi : IT S tg iter ρ ms (xs.map emb) (mst s0) G) (hG : ∀ s ex, G (mst s ++ ex)) (hn : ∀ s, (mst s).length = n)
    (hb : ∀ x ∈ xs, ∀ s o s' ex, m x s = some (o, s') → LcTurn (S.blk scope) tg elt ifs (wipeE ρ (own.map (·.2))) (own.map (·.2)) emb emb' mst x s o s' ex)
    (hf : fmL m xs s0 = some (ys, s1)) (hz : xs.length ≤ sizeLine) (hn0 : S.n0 ≤ n) : EE S (.ListComp elt [⟨tg, iter, ifs, 0⟩] scope pos) ρ ms (.new (ys.map emb')) (mst s1) :=
  .of (fun X hX => pe_lc hX.calm (by rw [hX.n]; exact hN) (pi_c hX _ _) (by rw [hX.n, hX.sc]; exact ok) (fun s H C cl fp => pg_c (hX.blk scope s H C cl fp) _) (fun s H C cl fp => pts_c (hX.blk scope s H C cl fp) _) (fun s H C cl fp => pe_c (hX.blk scope s H C cl fp) _) (hfs _))
    (evt_lc emb emb' xs m mst n hi hG hn hb hf hz hn0)
/-- x = [..] on one line -/
theorem ss_setLc {α τ β : Type} {scope : Scope} {px epos : Pos} (i : Nat) (own : List (Str × Nat)) (emb : α → D) (emb' : β → D) (xs : List α) (m : α → τ → Option (Option β × τ)) (mst : τ → MS) (n : Nat) {G : MS → Prop} {s0 s1 : τ} {ys : List β}
    (hN : S.N.Nodup) (hx : S.N[i]? = some x) (hxl : S.sc.names.lookup x = some .local) (hsw : ∀ X, InS S X → swapsWith (.ListComp elt [⟨tg, iter, ifs, 0⟩] scope epos) (some (.Name x px)) pos.line X.env = pure true)
    (ok : BlkOk S.N S.sc scope own) (hfs : ∀ env x, foldedSetIterable iter env x = pure x) (hi : IT S tg iter ρ ms (xs.map emb) (mst s0) G) (hG : ∀ s ex, G (mst s ++ ex)) (hn : ∀ s, (mst s).length = n)
    (hb : ∀ x ∈ xs, ∀ s o s' ex, m x s = some (o, s') → LcTurn (S.blk scope) tg elt ifs (wipeE ρ (own.map (·.2))) (own.map (·.2)) emb emb' mst x s o s' ex)
    (hf : fmL m xs s0 = some (ys, s1)) (hz : xs.length ≤ sizeLine) (hn0 : S.n0 ≤ n) : SS S (.Assign [.Name x px] (.ListComp elt [⟨tg, iter, ifs, 0⟩] scope epos) pos) ρ ms (.nx (ρ.set i (.dat (.list (ys.map emb')))) (mst s1)) :=
  .of (fun X hX => ps_setLc hX.calm (by rw [hX.n]; exact hN) (by rw [hX.n]; exact hx) (by rw [hX.sc]; exact hxl) (hsw X hX) (pi_c hX _ _) (by rw [hX.n, hX.sc]; exact ok) (fun s H C cl fp => pg_c (hX.blk scope s H C cl fp) _) (fun s H C cl fp => pts_c (hX.blk scope s H C cl fp) _) (fun s H C cl fp => pe_c (hX.blk scope s H C cl fp) _) (hfs _))
    fun as σ H En s en k => evt_lc emb emb' xs m mst n hi hG hn hb hf hz hn0 as σ H _ s en fun v H1 k1 s1 q1 => k as _ H1 (.of k1) s1 ((en.kp k1).setD (q1.frz rfl))
end
end Abs
namespace Abs
open PySem PySem.Spec PyProof.Rows L2

/-! ### what the mirrors are made of -/
def mulO (i j : Int) : Option Int := if i.natAbs.log2 + j.natAbs.log2 < 1000000 then some (i * j) else none
def divO (i j : Int) : Option Int := if 0 < j ∧ j.natAbs.log2 < 9000 then some (i / j) else none
def modO (i j : Int) : Option Int := if 0 < j then some (i % j) else none
def ixO {α : Type} (xs : List α) (i : Int) : Option α := L2.atI xs i
def szO {α : Type} (xs : List α) : Option (List α) := if xs.length ≤ sizeLine then some xs else none
def catO {α : Type} (xs ys : List α) : Option (List α) := if xs.length + ys.length ≤ sizeLine then some (xs ++ ys) else none
def appO {α : Type} (xs : List α) (y : α) : Option (List α) := if xs.length < sizeLine then some (xs ++ [y]) else none
def cutL {α : Type} (xs : List α) (lo hi : Option Int) : List α := (xs.drop (HT.sIx xs.length 0 lo)).take (HT.sIx xs.length xs.length hi - HT.sIx xs.length 0 lo)
def shO (d : D) : Option D := if SeqAt.shaped d = true then some d else none
/-- deep == -/
def eqO (d e : D) : Option Bool := if SeqAt.shaped d = true ∧ SeqAt.shaped e = true then some (PyData.eqv d e) else none
def rgO (n : Int) : Option (List Int) := if -(2 ^ 62) ≤ n ∧ n < 2 ^ 62 then some ((List.range n.toNat).map fun i => (0 : Int) + (i : Nat)) else none
def rg2O (m n : Int) : Option (List Int) := if -(2 ^ 62) ≤ m ∧ m < 2 ^ 62 ∧ -(2 ^ 62) ≤ n ∧ n < 2 ^ 62 then some ((List.range (n - m).toNat).map fun i => m + (i : Nat)) else none
def maxL : List Int → Option Int
  | [] => none
  | a :: t => some (t.foldl max a)
def minL : List Int → Option Int
  | [] => none
  | a :: t => some (t.foldl min a)
/-- comprehensions -/
def mapO {α β : Type} (m : α → Option β) : List α → Option (List β)
  | [] => some []
  | x :: xs => (m x).bind fun y => (mapO m xs).map fun ys => y :: ys
def fmO {α β : Type} (m : α → Option (Option β)) : List α → Option (List β)
  | [] => some []
  | x :: xs => (m x).bind fun o => (fmO m xs).map fun ys => match o with | none => ys | some y => y :: ys
def mapS {α β τ : Type} (m : α → τ → Option (β × τ)) : List α → τ → Option (List β × τ)
  | [], s => some ([], s)
  | x :: xs, s => (m x s).bind fun o => (mapS m xs o.2).map fun q => (o.1 :: q.1, q.2)
/-- loops without a way out -/
def forS {α τ : Type} (body : α → τ → Option τ) : List α → τ → Option τ
  | [], s => some s
  | x :: xs, s => (body x s).bind fun s' => forS body xs s'
def whileS {τ : Type} (c : τ → Option Bool) (body : τ → Option τ) : Nat → τ → Option τ
  | 0, _ => none
  | n + 1, s => (c s).bind fun t => if t = true then (body s).bind fun s' => whileS c body n s' else some s
theorem bindS {α β : Type} {o : Option α} {f : α → Option β} {b : β} (h : o.bind f = some b) : ∃ a, o = some a ∧ f a = some b := by
  cases o with
  | none => cases h
  | some a => exact ⟨a, rfl, h⟩
theorem someS {α : Type} {a b : α} (h : some a = some b) : a = b := Option.some.inj h
theorem iteT' {α : Type} {t : Bool} {a b : Option α} {x : α} (e : t = true) (h : (if t = true then a else b) = some x) : a = some x := by rw [if_pos e] at h; exact h
theorem iteF' {α : Type} {t : Bool} {a b : Option α} {x : α} (e : t = false) (h : (if t = true then a else b) = some x) : b = some x := by
  rw [if_neg (by rw [e]; decide)] at h; exact h
theorem mulO_some {i j k : Int} (h : mulO i j = some k) : CMulW i j ∧ k = i * j := by
  unfold mulO at h
  split at h
  · rename_i c; exact ⟨c, (Option.some.inj h).symm⟩
  · cases h
theorem divO_some {i j k : Int} (h : divO i j = some k) : CDivW i j ∧ k = i / j := by
  unfold divO at h
  split at h
  · rename_i c; exact ⟨c, (Option.some.inj h).symm⟩
  · cases h
theorem modO_some {i j k : Int} (h : modO i j = some k) : 0 < j ∧ k = i % j := by
  unfold modO at h
  split at h
  · rename_i c; exact ⟨c, (Option.some.inj h).symm⟩
  · cases h
theorem szO_some {α : Type} {xs ys : List α} (h : szO xs = some ys) : xs.length ≤ sizeLine ∧ ys = xs := by
  unfold szO at h
  split at h
  · rename_i c; exact ⟨c, (Option.some.inj h).symm⟩
  · cases h
theorem catO_some {α : Type} {xs ys zs : List α} (h : catO xs ys = some zs) : xs.length + ys.length ≤ sizeLine ∧ zs = xs ++ ys := by
  unfold catO at h
  split at h
  · rename_i c; exact ⟨c, (Option.some.inj h).symm⟩
  · cases h
theorem appO_some {α : Type} {xs zs : List α} {y : α} (h : appO xs y = some zs) : xs.length < sizeLine ∧ zs = xs ++ [y] := by
  unfold appO at h
  split at h
  · rename_i c; exact ⟨c, (Option.some.inj h).symm⟩
  · cases h
theorem eqO_some {d e : D} {t : Bool} (h : eqO d e = some t) : SeqAt.shaped d = true ∧ SeqAt.shaped e = true ∧ t = PyData.eqv d e := by
  unfold eqO at h
  split at h
  · rename_i c; exact ⟨c.1, c.2, (Option.some.inj h).symm⟩
  · cases h
theorem rgO_some {n : Int} {xs : List Int} (h : rgO n = some xs) : (-(2 ^ 62) ≤ n ∧ n < 2 ^ 62) ∧ rngD 0 n.toNat = xs.map .int := by
  unfold rgO at h
  split at h
  · rename_i c
    cases h
    refine ⟨c, ?_⟩
    unfold rngD
    rw [List.map_map]; rfl
  · cases h
theorem rg2O_some {m n : Int} {xs : List Int} (h : rg2O m n = some xs) : (-(2 ^ 62) ≤ m ∧ m < 2 ^ 62 ∧ -(2 ^ 62) ≤ n ∧ n < 2 ^ 62) ∧ rngD m (n - m).toNat = xs.map .int := by
  unfold rg2O at h
  split at h
  · rename_i c
    cases h
    refine ⟨c, ?_⟩
    unfold rngD
    rw [List.map_map]; rfl
  · cases h
theorem foldl_max_ge : ∀ (l : List Int) (a : Int), a ≤ l.foldl max a ∧ (∀ y ∈ l, y ≤ l.foldl max a) ∧ (l.foldl max a = a ∨ l.foldl max a ∈ l)
  | [], a => ⟨Int.le_refl _, fun _ h => by simp at h, .inl rfl⟩
  | b :: l, a => by
    obtain ⟨h1, h2, h3⟩ := foldl_max_ge l (max a b)
    rw [List.foldl_cons]
    have h4 : a ≤ max a b := Int.le_max_left _ _
    have h5 : b ≤ max a b := Int.le_max_right _ _
    refine ⟨by omega, fun y hy => ?_, ?_⟩
    · rcases List.mem_cons.mp hy with z | z
      · rw [z]; omega
      · exact h2 y z
    · rcases h3 with z | z
      · rw [z]
        rcases Int.le_total a b with w | w
        · right; rw [Int.max_eq_right w]; exact List.mem_cons_self
        · left; exact Int.max_eq_left w
      · right; exact List.mem_cons_of_mem _ z
theorem foldl_min_le : ∀ (l : List Int) (a : Int), l.foldl min a ≤ a ∧ (∀ y ∈ l, l.foldl min a ≤ y) ∧ (l.foldl min a = a ∨ l.foldl min a ∈ l)
  | [], a => ⟨Int.le_refl _, fun _ h => by simp at h, .inl rfl⟩
  | b :: l, a => by
    obtain ⟨h1, h2, h3⟩ := foldl_min_le l (min a b)
    rw [List.foldl_cons]
    have h4 : min a b ≤ a := Int.min_le_left _ _
    have h5 : min a b ≤ b := Int.min_le_right _ _
    refine ⟨by omega, fun y hy => ?_, ?_⟩
    · rcases List.mem_cons.mp hy with z | z
      · rw [z]; omega
      · exact h2 y z
    · rcases h3 with z | z
      · rw [z]
        rcases Int.le_total a b with w | w
        · left; exact Int.min_eq_left w
        · right; rw [Int.min_eq_right w]; exact List.mem_cons_self
      · right; exact List.mem_cons_of_mem _ z
theorem maxL_some {l : List Int} {m : Int} (h : maxL l = some m) : m ∈ l ∧ ∀ y ∈ l, y ≤ m := by
  cases l with
  | nil => cases h
  | cons a t =>
    cases (Option.some.inj h : _ = m)
    obtain ⟨h1, h2, h3⟩ := foldl_max_ge t a
    refine ⟨?_, fun y hy => ?_⟩
    · rcases h3 with z | z
      · rw [z]; exact List.mem_cons_self
      · exact List.mem_cons_of_mem _ z
    · rcases List.mem_cons.mp hy with z | z
      · rw [z]; exact h1
      · exact h2 y z
theorem minL_some {l : List Int} {m : Int} (h : minL l = some m) : m ∈ l ∧ ∀ y ∈ l, m ≤ y := by
  cases l with
  | nil => cases h
  | cons a t =>
    cases (Option.some.inj h : _ = m)
    obtain ⟨h1, h2, h3⟩ := foldl_min_le t a
    refine ⟨?_, fun y hy => ?_⟩
    · rcases h3 with z | z
      · rw [z]; exact List.mem_cons_self
      · exact List.mem_cons_of_mem _ z
    · rcases List.mem_cons.mp hy with z | z
      · rw [z]; exact h1
      · exact h2 y z

section
variable {S : Sx} {K : PySem.W.Frag} {as as1 as2 : List Addr} {H H1 H2 H' : Hp} {ms ms1 ms2 ms3 ms' mc tl : MS} {ρ ρ1 ρ2 ρ' : Env'} {σ : L2.St} {e a b c tg iter elt : Expr} {es ifs : List Expr} {r r' r1 r2 r3 : Rs} {rs : List Rs} {o : Out} {st : Stmt} {rest bd sts p q : List Stmt} {pos px : Pos} {t u : Bool} {i j k : Int} {x y z : Str} {En : Ends} {d d1 d2 d3 : D} {ds ds1 ds2 : List D} {Φ : Out → Prop}

/-! ### operations with conditions -/
theorem ee_mulO (ha : EE S a ρ ms (.dat (.int i)) ms1) (hb : EE S b ρ ms1 (.dat (.int j)) ms2) (h : mulO i j = some k) : EE S (.BinOp a .Mult b pos) ρ ms (.dat (.int k)) ms2 := by
  obtain ⟨c, rfl⟩ := mulO_some h
  exact ee_mul ha hb c
theorem ee_divO (ha : EE S a ρ ms (.dat (.int i)) ms1) (hb : EE S b ρ ms1 (.dat (.int j)) ms2) (h : divO i j = some k) : EE S (.BinOp a .FloorDiv b pos) ρ ms (.dat (.int k)) ms2 := by
  obtain ⟨c, rfl⟩ := divO_some h
  exact ee_div ha hb c
theorem ee_modO (ha : EE S a ρ ms (.dat (.int i)) ms1) (hb : EE S b ρ ms1 (.dat (.int j)) ms2) (h : modO i j = some k) : EE S (.BinOp a .Mod b pos) ρ ms (.dat (.int k)) ms2 := by
  obtain ⟨c, rfl⟩ := modO_some h
  exact ee_mod ha hb c
theorem ee_powC (ha : EE S a ρ ms (.dat (.int i)) ms1) (hb : EE S b ρ ms1 (.dat (.int j)) ms2) (hc : CPow i j) (h : i ^ j.toNat = k) : EE S (.BinOp a .Pow b pos) ρ ms (.dat (.int k)) ms2 := by
  rw [← h]; exact ee_pow ha hb hc
theorem ee_mulC (ha : EE S a ρ ms (.dat (.int i)) ms1) (hb : EE S b ρ ms1 (.dat (.int j)) ms2) (hc : CMulW i j) (h : i * j = k) : EE S (.BinOp a .Mult b pos) ρ ms (.dat (.int k)) ms2 := by
  rw [← h]; exact ee_mul ha hb hc
theorem ee_eqO (hm : behindInMarks .Eq b = false) (ha : EE S a ρ ms r1 ms1) (hb : EE S b ρ ms1 r2 ms2) (h1 : res ms2 r1 = some d) (h2 : res ms2 r2 = some d1) (h : eqO d d1 = some t) : EE S (.Compare a [.Eq] [b] pos) ρ ms (.dat (.bool t)) ms2 := by
  obtain ⟨c1, c2, rfl⟩ := eqO_some h
  exact ee_eqD hm ha hb h1 h2 c1 c2
theorem et_eqO (hm : behindInMarks .Eq b = false) (ha : EE S a ρ ms r1 ms1) (hb : EE S b ρ ms1 r2 ms2) (h1 : res ms2 r1 = some d) (h2 : res ms2 r2 = some d1) (h : eqO d d1 = some t) : ET S (.Compare a [.Eq] [b] pos) ρ ms t ms2 := by
  obtain ⟨c1, c2, rfl⟩ := eqO_some h
  exact et_eqD hm ha hb h1 h2 c1 c2
theorem ee_neO (hm : behindInMarks .NotEq b = false) (ha : EE S a ρ ms r1 ms1) (hb : EE S b ρ ms1 r2 ms2) (h1 : res ms2 r1 = some d) (h2 : res ms2 r2 = some d1) (h : eqO d d1 = some t) : EE S (.Compare a [.NotEq] [b] pos) ρ ms (.dat (.bool (!t))) ms2 := by
  obtain ⟨c1, c2, rfl⟩ := eqO_some h
  exact ee_neD hm ha hb h1 h2 c1 c2
theorem et_neO (hm : behindInMarks .NotEq b = false) (ha : EE S a ρ ms r1 ms1) (hb : EE S b ρ ms1 r2 ms2) (h1 : res ms2 r1 = some d) (h2 : res ms2 r2 = some d1) (h : eqO d d1 = some t) : ET S (.Compare a [.NotEq] [b] pos) ρ ms (!t) ms2 := by
  obtain ⟨c1, c2, rfl⟩ := eqO_some h
  exact et_neD hm ha hb h1 h2 c1 c2
/-- items of typed lists -/
theorem atI_map {α β : Type} (f : α → β) {xs : List α} {v : α} (h : ixO xs i = some v) : L2.atI (xs.map f) i = some (f v) := by
  unfold ixO L2.atI at h
  unfold L2.atI
  rw [List.length_map]
  cases q : ixN xs.length i with
  | none => rw [q] at h; cases h
  | some j =>
    rw [q] at h
    have h : xs[j]? = some v := h
    show (xs.map f)[j]? = some (f v)
    rw [List.getElem?_map, h]; rfl
theorem cutD_map {α : Type} (f : α → D) (xs : List α) (lo hi : Option Int) : cutD (xs.map f) lo hi = (cutL xs lo hi).map f := by
  unfold cutD cutL
  rw [List.length_map, List.map_take, List.map_drop]

/-! ### blocks by what they end with -/
def Ex (S : Sx) (sts : List Stmt) (ρ : Env') (ms : MS) (Φ : Out → Prop) : Prop := ∃ o, SSs S sts ρ ms o ∧ Φ o
theorem ex_nil (h : Φ (.nx ρ ms)) : Ex S [] ρ ms Φ := ⟨_, ss_nil, h⟩
theorem ex_cons (h : SS S st ρ ms (.nx ρ1 ms1)) (hr : Ex S rest ρ1 ms1 Φ) : Ex S (st :: rest) ρ ms Φ := by
  obtain ⟨o, h1, h2⟩ := hr
  exact ⟨o, ss_cons h h1, h2⟩
theorem ex_out (h : SS S st ρ ms o) (hn : o.isNx = false) (hΦ : Φ o) : Ex S (st :: rest) ρ ms Φ := ⟨o, ss_out h hn, hΦ⟩
def thenEx (S : Sx) (rest : List Stmt) (Φ : Out → Prop) : Out → Prop
  | .nx ρ ms => Ex S rest ρ ms Φ
  | o => Φ o
theorem ex_ifT (h : ET S c ρ ms t ms1) (ht : t = true) (hp : Ex S p ρ ms1 (thenEx S rest Φ)) : Ex S (.If c p q pos :: rest) ρ ms Φ := by
  obtain ⟨o, h1, h2⟩ := hp
  subst ht
  have hs : SS S (.If c p q pos) ρ ms o := ss_if h (fun _ => h1) (fun z => nomatch z)
  cases o with
  | nx ρ1 m1 => exact ex_cons hs h2
  | rt r m1 => exact ex_out hs rfl h2
  | bk r m1 => exact ex_out hs rfl h2
  | ct r m1 => exact ex_out hs rfl h2
theorem ex_ifF (h : ET S c ρ ms t ms1) (ht : t = false) (hp : Ex S q ρ ms1 (thenEx S rest Φ)) : Ex S (.If c p q pos :: rest) ρ ms Φ := by
  obtain ⟨o, h1, h2⟩ := hp
  subst ht
  have hs : SS S (.If c p q pos) ρ ms o := ss_if h (fun z => nomatch z) (fun _ => h1)
  cases o with
  | nx ρ1 m1 => exact ex_cons hs h2
  | rt r m1 => exact ex_out hs rfl h2
  | bk r m1 => exact ex_out hs rfl h2
  | ct r m1 => exact ex_out hs rfl h2
theorem ex_ifF0 (h : ET S c ρ ms t ms1) (ht : t = false) (hp : Ex S rest ρ ms1 Φ) : Ex S (.If c p [] pos :: rest) ρ ms Φ := ex_ifF h ht (ex_nil hp)
theorem Ex.imp {Ψ : Out → Prop} (h : Ex S sts ρ ms Φ) (f : ∀ o, Φ o → Ψ o) : Ex S sts ρ ms Ψ := by
  obtain ⟨o, h1, h2⟩ := h
  exact ⟨o, h1, f o h2⟩
/-- a block that runs through, to less knowledge -/
def Thru (ρ2 : Env') (ms1 : MS) : Out → Prop := fun o => ∃ ρ1 ex, o = .nx ρ1 (ms1 ++ ex) ∧ LeE ms1.length ρ1 ρ2
theorem ex_thru (h : Ex S sts ρ ms (Thru ρ2 ms1)) (hl : ms1.length = ms.length) : SSs S sts ρ ms (.nx ρ2 ms1) := by
  obtain ⟨o, h1, ρ1, ex, rfl, h2⟩ := h
  exact ss_weak h1 hl h2
/-- an if whose branches both run through to what is told -/
theorem ss_join (h : ET S c ρ ms t ms1) (hl1 : ms1.length = ms.length) (hl : ms2.length = ms.length) (h1 : t = true → Ex S p ρ ms1 (Thru ρ2 ms2)) (h0 : t = false → Ex S q ρ ms1 (Thru ρ2 ms2)) : SS S (.If c p q pos) ρ ms (.nx ρ2 ms2) :=
  ss_if h (fun z => ex_thru (h1 z) (by omega)) (fun z => ex_thru (h0 z) (by omega))
/-! loops -/
/-- what the end of a turn is -/
def TurnEnd {τ β : Type} (env : τ → Env') (mst : τ → MS) (rr : β → Rs) (mr : β → MS) : Lo τ β → Out → Prop
  | .go s, o => ∃ ρ1 ex, (o = .nx ρ1 (mst s ++ ex) ∨ o = .ct ρ1 (mst s ++ ex)) ∧ LeE (mst s).length ρ1 (env s)
  | .brk s, o => ∃ ρ1 ex, o = .bk ρ1 (mst s ++ ex) ∧ LeE (mst s).length ρ1 (env s)
  | .ret b, o => o = .rt (rr b) (mr b)
theorem lo_of {τ β : Type} {env : τ → Env'} {mst : τ → MS} {rr : β → Rs} {mr : β → MS} {lo : Lo τ β} {n : Nat} (hn : ∀ s, (mst s).length = n) (hm : ms.length = n) (h : Ex S bd ρ ms (TurnEnd env mst rr mr lo)) : LoOut S bd ρ ms env mst rr mr lo := by
  obtain ⟨o, h1, h2⟩ := h
  cases lo with
  | go s =>
    obtain ⟨ρ1, ex, h3, h4⟩ := h2
    rcases h3 with rfl | rfl
    · exact .inl (ss_weak h1 (by rw [hn, hm]) h4)
    · exact .inr (ss_weak_ct h1 (by rw [hn, hm]) h4)
  | brk s =>
    obtain ⟨ρ1, ex, rfl, h4⟩ := h2
    exact ss_weak_bk h1 (by rw [hn, hm]) h4
  | ret b =>
    have h2 : o = .rt (rr b) (mr b) := h2
    rw [h2] at h1
    exact h1
theorem forS_L {α τ : Type} {body : α → τ → Option τ} : ∀ {xs : List α} {s s' : τ}, forS body xs s = some s' → forL (β := Unit) (fun x s => (body x s).map .go) xs s = some (.brk s')
  | [], s, s', h => by cases h; rfl
  | x :: xs, s, s', h => by
    unfold forS at h
    obtain ⟨s1, h1, h2⟩ := bindS h
    unfold forL
    rw [h1]
    exact forS_L h2
theorem whileS_L {τ : Type} {c : τ → Option Bool} {body : τ → Option τ} : ∀ {n : Nat} {s s' : τ}, whileS c body n s = some s' → whileL (β := Unit) c (fun s => (body s).map .go) n s = some (.brk s')
  | 0, s, s', h => by cases h
  | n + 1, s, s', h => by
    unfold whileS at h
    obtain ⟨t, h1, h2⟩ := bindS h
    unfold whileL
    rw [h1]
    cases t with
    | true =>
      obtain ⟨s1, h3, h4⟩ := bindS (iteT' rfl h2)
      rw [Option.bind_some, if_pos rfl, h3]
      exact whileS_L h4
    | false =>
      cases (someS (iteF' rfl h2) : _ = s')
      rfl
/-- where nothing leaves -/
theorem hpn : ∀ X : Cx, X.xe = (fun _ _ => False) → PassesOwn (model X.prog X.w) X.A X.env X.xe := fun X h => by rw [h]; exact PassesOwn.never
theorem ss_forS {α τ : Type} (emb : α → D) (xs : List α) (body : α → τ → Option τ) (env : τ → Env') (mst : τ → MS) (n : Nat) {G : MS → Prop} {s0 s1 : τ} (hfs : ∀ env x, foldedSetIterable iter env x = pure x)
    (hi : IT S tg iter ρ ms (xs.map emb) (mst s0) G) (hG : ∀ s, G (mst s)) (hn : ∀ s, (mst s).length = n) (h0 : LeE n ρ (env s0))
    (hb : ∀ x ∈ xs, ∀ s s', body x s = some s' → ∃ ρx sl, EG S tg (emb x) (env s) ρx sl ∧ Ex S bd ρx (mst s) (TurnEnd env mst (fun _ : Unit => Rs.dat .none) (fun _ => []) (.go s')))
    (hf : forS body xs s0 = some s1) : SS S (.For tg iter bd [] pos) ρ ms (.nx (env s1) (mst s1)) :=
  ss_for (β := Unit) hfs hpn emb xs (fun x s => (body x s).map .go) env mst (fun _ => .dat .none) (fun _ => []) n hi hG hn h0 (fun x hx s o ho => by
    cases hbo : body x s with
    | none => rw [hbo] at ho; cases ho
    | some s' =>
      rw [hbo] at ho
      cases (Option.some.inj ho : _ = o)
      obtain ⟨ρx, sl, eg, he⟩ := hb x hx s s' hbo
      exact ⟨ρx, sl, eg, lo_of hn (hn s) he⟩) (forS_L hf)
theorem ss_whileS {τ : Type} (cm : τ → Option Bool) (body : τ → Option τ) (env : τ → Env') (mst : τ → MS) (n : Nat) {s0 s1 : τ} (N : Nat)
    (hms : ms = mst s0) (hn : ∀ s, (mst s).length = n) (h0 : LeE n ρ (env s0)) (hc : ∀ s t, cm s = some t → ET S c (env s) (mst s) t (mst s))
    (hb : ∀ s s', cm s = some true → body s = some s' → Ex S bd (env s) (mst s) (TurnEnd env mst (fun _ : Unit => Rs.dat .none) (fun _ => []) (.go s')))
    (hf : whileS cm body N s0 = some s1) : SS S (.While c bd [] pos) ρ ms (.nx (env s1) (mst s1)) :=
  ss_while (β := Unit) hpn cm (fun s => (body s).map .go) env mst (fun _ => .dat .none) (fun _ => []) n N hms hn h0 hc (fun s o hc' ho => by
    cases hbo : body s with
    | none => rw [hbo] at ho; cases ho
    | some s' =>
      rw [hbo] at ho
      cases (Option.some.inj ho : _ = o)
      exact lo_of hn (hn s) (hb s s' hc' hbo)) (whileS_L hf)
end
end Abs
namespace Abs
open PySem PySem.Spec PyProof.Rows L2
theorem bt_len : bootBuiltins "len" = some (.builtin "len") := by decide +kernel
theorem bt_abs : bootBuiltins "abs" = some (.builtin "abs") := by decide +kernel
theorem bt_max : bootBuiltins "max" = some (.builtin "max") := by decide +kernel
theorem bt_min : bootBuiltins "min" = some (.builtin "min") := by decide +kernel
theorem bt_sum : bootBuiltins "sum" = some (.builtin "sum") := by decide +kernel
theorem bt_all : bootBuiltins "all" = some (.builtin "all") := by decide +kernel
theorem bt_any : bootBuiltins "any" = some (.builtin "any") := by decide +kernel
theorem bt_isi : bootBuiltins "isinstance" = some (.builtin "isinstance") := by decide +kernel
theorem bt_sorted : bootBuiltins "sorted" = some (.builtin "sorted") := by decide +kernel
theorem bt_int : bootBuiltins "int" = some (.type "int") := by decide +kernel
theorem bt_bool : bootBuiltins "bool" = some (.type "bool") := by decide +kernel
theorem bt_str : bootBuiltins "str" = some (.type "str") := by decide +kernel
theorem bt_list : bootBuiltins "list" = some (.type "list") := by decide +kernel
theorem bt_tuple : bootBuiltins "tuple" = some (.type "tuple") := by decide +kernel
section
variable {S : Sx} {K : PySem.W.Frag} {as as1 as2 : List Addr} {H H1 H2 H' : Hp} {ms ms1 ms2 ms3 ms' mc tl : MS} {ρ ρ1 ρ2 ρ' : Env'} {σ : L2.St} {e a b c tg iter elt : Expr} {es ifs rest : List Expr} {r r' r1 r2 r3 : Rs} {rs : List Rs} {o : Out} {st : Stmt} {bd sts p q : List Stmt} {pos px : Pos} {t u : Bool} {i j k : Int} {x y z : Str} {d d1 d2 d3 : D} {ds ds1 ds2 : List D} {Φ : Out → Prop}

/-! ### built-in functions by name -/
theorem ee_len (hm : S.mg "len" = none) (hg : S.sc.names.lookup (Str.ofString "len") = some .globalImplicit) (ha : EA S [e] ρ ms [r] ms1) (hl : lres ms1 r = some ds)
    (he : ∀ env, starEach [e] env = (false, eval e env) :: starEach [] env := by intro _; rfl) : EE S (.Call (.Name "len" px) [e] [] pos) ρ ms (.dat (.int (ds.length : Int))) ms1 :=
  ee_cb (fun X hX => by have h := call_len_seq (X := X); rw [hX.k] at h; exact h) hm hg bt_len (cr_len hl) ha (he := he) (hpl := fun _ => rfl)
theorem ee_lenT (hm : S.mg "len" = none) (hg : S.sc.names.lookup (Str.ofString "len") = some .globalImplicit) (ha : EA S [e] ρ ms [.dat (.tuple ds)] ms1)
    (he : ∀ env, starEach [e] env = (false, eval e env) :: starEach [] env := by intro _; rfl) : EE S (.Call (.Name "len" px) [e] [] pos) ρ ms (.dat (.int (ds.length : Int))) ms1 :=
  ee_cb (fun X hX => by have h := call_len_seq (X := X); rw [hX.k] at h; exact h) hm hg bt_len cr_lenT ha (he := he) (hpl := fun _ => rfl)
theorem ee_abs (hm : S.mg "abs" = none) (hg : S.sc.names.lookup (Str.ofString "abs") = some .globalImplicit) (ha : EA S [e] ρ ms [.dat (.int i)] ms1)
    (he : ∀ env, starEach [e] env = (false, eval e env) :: starEach [] env := by intro _; rfl) : EE S (.Call (.Name "abs" px) [e] [] pos) ρ ms (.dat (.int (i.natAbs : Int))) ms1 :=
  ee_cb (fun X hX => call_abs) hm hg bt_abs cr_abs ha (he := he) (hpl := fun _ => rfl)
theorem ee_max2 (hm : S.mg "max" = none) (hg : S.sc.names.lookup (Str.ofString "max") = some .globalImplicit) (ha : EA S [a, b] ρ ms [.dat (.int i), .dat (.int j)] ms1)
    (he : ∀ env, starEach [a, b] env = (false, eval a env) :: starEach [b] env := by intro _; rfl) (hpl : ∀ env, (backTo pos (starEach [b] env)).any (·.1) = false := by intro _; rfl) : EE S (.Call (.Name "max" px) [a, b] [] pos) ρ ms (.dat (.int (max i j))) ms1 :=
  ee_cb (fun X hX => call_max2 hX.calm) hm hg bt_max cr_max2' ha (he := he) (hpl := hpl)
theorem ee_min2 (hm : S.mg "min" = none) (hg : S.sc.names.lookup (Str.ofString "min") = some .globalImplicit) (ha : EA S [a, b] ρ ms [.dat (.int i), .dat (.int j)] ms1)
    (he : ∀ env, starEach [a, b] env = (false, eval a env) :: starEach [b] env := by intro _; rfl) (hpl : ∀ env, (backTo pos (starEach [b] env)).any (·.1) = false := by intro _; rfl) : EE S (.Call (.Name "min" px) [a, b] [] pos) ρ ms (.dat (.int (min i j))) ms1 :=
  ee_cb (fun X hX => call_min2 hX.calm) hm hg bt_min cr_min2' ha (he := he) (hpl := hpl)
theorem ee_intI (hm : S.mg "int" = none) (hg : S.sc.names.lookup (Str.ofString "int") = some .globalImplicit) (ha : EA S [e] ρ ms [.dat (.int i)] ms1)
    (he : ∀ env, starEach [e] env = (false, eval e env) :: starEach [] env := by intro _; rfl) : EE S (.Call (.Name "int" px) [e] [] pos) ρ ms (.dat (.int i)) ms1 :=
  ee_cty (fun X hX => call_int1) hm hg bt_int cr_intI ha (he := he) (hpl := fun _ => rfl)
theorem ee_intB (hm : S.mg "int" = none) (hg : S.sc.names.lookup (Str.ofString "int") = some .globalImplicit) (ha : EA S [e] ρ ms [.dat (.bool t)] ms1)
    (he : ∀ env, starEach [e] env = (false, eval e env) :: starEach [] env := by intro _; rfl) : EE S (.Call (.Name "int" px) [e] [] pos) ρ ms (.dat (.int (if t then 1 else 0))) ms1 :=
  ee_cty (fun X hX => call_int1) hm hg bt_int cr_intB ha (he := he) (hpl := fun _ => rfl)
theorem ee_sum {ns : List Int} (hm : S.mg "sum" = none) (hg : S.sc.names.lookup (Str.ofString "sum") = some .globalImplicit) (ha : EA S [e] ρ ms [r] ms1) (hl : lres ms1 r = some (ns.map .int))
    (he : ∀ env, starEach [e] env = (false, eval e env) :: starEach [] env := by intro _; rfl) : EE S (.Call (.Name "sum" px) [e] [] pos) ρ ms (.dat (.int ns.sum)) ms1 :=
  ee_cb (fun X hX => by have h := cr_sum (X := X) hX.calm; rw [hX.k] at h; exact h) hm hg bt_sum (cr_sum' hl) ha (he := he) (hpl := fun _ => rfl)
theorem ee_all {bs : List Bool} (hm : S.mg "all" = none) (hg : S.sc.names.lookup (Str.ofString "all") = some .globalImplicit) (ha : EA S [e] ρ ms [r] ms1) (hl : lres ms1 r = some (bs.map .bool))
    (he : ∀ env, starEach [e] env = (false, eval e env) :: starEach [] env := by intro _; rfl) : EE S (.Call (.Name "all" px) [e] [] pos) ρ ms (.dat (.bool (bs.all id))) ms1 :=
  ee_cb (fun X hX => by have h := cr_all (X := X) hX.calm; rw [hX.k] at h; exact h) hm hg bt_all (cr_all' hl) ha (he := he) (hpl := fun _ => rfl)
theorem ee_any {bs : List Bool} (hm : S.mg "any" = none) (hg : S.sc.names.lookup (Str.ofString "any") = some .globalImplicit) (ha : EA S [e] ρ ms [r] ms1) (hl : lres ms1 r = some (bs.map .bool))
    (he : ∀ env, starEach [e] env = (false, eval e env) :: starEach [] env := by intro _; rfl) : EE S (.Call (.Name "any" px) [e] [] pos) ρ ms (.dat (.bool (bs.any id))) ms1 :=
  ee_cb (fun X hX => by have h := cr_any (X := X) hX.calm; rw [hX.k] at h; exact h) hm hg bt_any (cr_any' hl) ha (he := he) (hpl := fun _ => rfl)
theorem ee_maxL {ns : List Int} (hm : S.mg "max" = none) (hg : S.sc.names.lookup (Str.ofString "max") = some .globalImplicit) (ha : EA S [e] ρ ms [r] ms1) (hl : lres ms1 r = some (ns.map .int)) (h : maxL ns = some i)
    (he : ∀ env, starEach [e] env = (false, eval e env) :: starEach [] env := by intro _; rfl) : EE S (.Call (.Name "max" px) [e] [] pos) ρ ms (.dat (.int i)) ms1 :=
  ee_cb (fun X hX => by have h := cr_max (X := X) hX.calm; rw [hX.k] at h; exact h) hm hg bt_max (cr_maxL hl (maxL_some h).1 (maxL_some h).2) ha (he := he) (hpl := fun _ => rfl)
theorem ee_minL {ns : List Int} (hm : S.mg "min" = none) (hg : S.sc.names.lookup (Str.ofString "min") = some .globalImplicit) (ha : EA S [e] ρ ms [r] ms1) (hl : lres ms1 r = some (ns.map .int)) (h : minL ns = some i)
    (he : ∀ env, starEach [e] env = (false, eval e env) :: starEach [] env := by intro _; rfl) : EE S (.Call (.Name "min" px) [e] [] pos) ρ ms (.dat (.int i)) ms1 :=
  ee_cb (fun X hX => by have h := cr_min (X := X) hX.calm; rw [hX.k] at h; exact h) hm hg bt_min (cr_minL hl (minL_some h).1 (minL_some h).2) ha (he := he) (hpl := fun _ => rfl)
theorem ee_tuple (hm : S.mg "tuple" = none) (hg : S.sc.names.lookup (Str.ofString "tuple") = some .globalImplicit) (ha : EA S [e] ρ ms [r] ms1) (hl : lres ms1 r = some ds)
    (he : ∀ env, starEach [e] env = (false, eval e env) :: starEach [] env := by intro _; rfl) : EE S (.Call (.Name "tuple" px) [e] [] pos) ρ ms (.dat (.tuple ds)) ms1 :=
  ee_cty (fun X hX => by have h := call_tuple_of (X := X); rw [hX.k] at h; exact h) hm hg bt_tuple (cr_tupL hl) ha (he := he) (hpl := fun _ => rfl)
theorem ee_tupleT (hm : S.mg "tuple" = none) (hg : S.sc.names.lookup (Str.ofString "tuple") = some .globalImplicit) (ha : EA S [e] ρ ms [.dat (.tuple ds)] ms1)
    (he : ∀ env, starEach [e] env = (false, eval e env) :: starEach [] env := by intro _; rfl) : EE S (.Call (.Name "tuple" px) [e] [] pos) ρ ms (.dat (.tuple ds)) ms1 :=
  ee_cty (fun X hX => by have h := call_tuple_of (X := X); rw [hX.k] at h; exact h) hm hg bt_tuple cr_tupT ha (he := he) (hpl := fun _ => rfl)
theorem ee_list (hm : S.mg "list" = none) (hg : S.sc.names.lookup (Str.ofString "list") = some .globalImplicit) (ha : EA S [e] ρ ms [r] ms1) (hl : lres ms1 r = some ds)
    (he : ∀ env, starEach [e] env = (false, eval e env) :: starEach [] env := by intro _; rfl) : EE S (.Call (.Name "list" px) [e] [] pos) ρ ms (.new ds) ms1 :=
  ee_cty (fun X hX => by have h := call_list_of (X := X); rw [hX.k] at h; exact h) hm hg bt_list (cr_listL hl) ha (he := he) (hpl := fun _ => rfl)
theorem ee_listT (hm : S.mg "list" = none) (hg : S.sc.names.lookup (Str.ofString "list") = some .globalImplicit) (ha : EA S [e] ρ ms [.dat (.tuple ds)] ms1)
    (he : ∀ env, starEach [e] env = (false, eval e env) :: starEach [] env := by intro _; rfl) : EE S (.Call (.Name "list" px) [e] [] pos) ρ ms (.new ds) ms1 :=
  ee_cty (fun X hX => by have h := call_list_of (X := X); rw [hX.k] at h; exact h) hm hg bt_list cr_listT ha (he := he) (hpl := fun _ => rfl)
theorem ee_isi {T : String} (hm : S.mg "isinstance" = none) (hg : S.sc.names.lookup (Str.ofString "isinstance") = some .globalImplicit) (h : PySem.W.kitOne S.K (.type (tyD d)) (.type T) = some t) (ha : EA S [a, b] ρ ms [.dat d, .ty T] ms1)
    (he : ∀ env, starEach [a, b] env = (false, eval a env) :: starEach [b] env := by intro _; rfl) (hpl : ∀ env, (backTo pos (starEach [b] env)).any (·.1) = false := by intro _; rfl) : EE S (.Call (.Name "isinstance" px) [a, b] [] pos) ρ ms (.dat (.bool t)) ms1 :=
  ee_cb (fun X hX => by have h := call_isi (X := X); rw [hX.k] at h; exact h) hm hg bt_isi (cr_isi h (.ty T)) ha (he := he) (hpl := hpl)

/-! ### choices without conditions of their own -/
theorem ee_andV (h : EE S a ρ ms (.dat (.bool t)) ms1) (h1 : t = true → EE S (.BoolOp .And (b :: rest) pos) ρ ms1 (.dat (.bool u)) ms1) : EE S (.BoolOp .And (a :: b :: rest) pos) ρ ms (.dat (.bool (t && u))) ms1 := by
  refine ee_and h (fun z => ?_) (fun z => ?_)
  · rw [z]; exact h1 z
  · rw [z]; exact ⟨rfl, rfl⟩
theorem ee_orV (h : EE S a ρ ms (.dat (.bool t)) ms1) (h1 : t = false → EE S (.BoolOp .Or (b :: rest) pos) ρ ms1 (.dat (.bool u)) ms1) : EE S (.BoolOp .Or (a :: b :: rest) pos) ρ ms (.dat (.bool (t || u))) ms1 := by
  refine ee_or h (fun z => ?_) (fun z => ?_)
  · rw [z]; exact h1 z
  · rw [z]; exact ⟨rfl, rfl⟩
theorem ew_andV (h : ET S a ρ ms t ms1) (h1 : t = true → EW S (.BoolOp .And (b :: rest) pos) ρ ms1 u ms1) : EW S (.BoolOp .And (a :: b :: rest) pos) ρ ms (t && u) ms1 := by
  refine ew_and h (fun z => ?_) (fun z => ?_)
  · rw [z]; exact h1 z
  · rw [z]; exact ⟨rfl, rfl⟩
theorem ew_orV (h : ET S a ρ ms t ms1) (h1 : t = false → EW S (.BoolOp .Or (b :: rest) pos) ρ ms1 u ms1) : EW S (.BoolOp .Or (a :: b :: rest) pos) ρ ms (t || u) ms1 := by
  refine ew_or h (fun z => ?_) (fun z => ?_)
  · rw [z]; exact h1 z
  · rw [z]; exact ⟨rfl, rfl⟩
/-- with conditions: told by the choice's own outcome -/
theorem ee_andO {m : Option Bool} (h : EE S a ρ ms (.dat (.bool t)) ms1) (hm : (if t = true then m else some false) = some u) (h1 : t = true → m = some u → EE S (.BoolOp .And (b :: rest) pos) ρ ms1 (.dat (.bool u)) ms1) : EE S (.BoolOp .And (a :: b :: rest) pos) ρ ms (.dat (.bool u)) ms1 :=
  ee_and h (fun z => h1 z (iteT' z hm)) (fun z => ⟨(someS (iteF' z hm)).symm, rfl⟩)
theorem ee_orO {m : Option Bool} (h : EE S a ρ ms (.dat (.bool t)) ms1) (hm : (if t = true then some true else m) = some u) (h1 : t = false → m = some u → EE S (.BoolOp .Or (b :: rest) pos) ρ ms1 (.dat (.bool u)) ms1) : EE S (.BoolOp .Or (a :: b :: rest) pos) ρ ms (.dat (.bool u)) ms1 :=
  ee_or h (fun z => h1 z (iteF' z hm)) (fun z => ⟨(someS (iteT' z hm)).symm, rfl⟩)
theorem ew_andO {m : Option Bool} (h : ET S a ρ ms t ms1) (hm : (if t = true then m else some false) = some u) (h1 : t = true → m = some u → EW S (.BoolOp .And (b :: rest) pos) ρ ms1 u ms1) : EW S (.BoolOp .And (a :: b :: rest) pos) ρ ms u ms1 :=
  ew_and h (fun z => h1 z (iteT' z hm)) (fun z => ⟨(someS (iteF' z hm)).symm, rfl⟩)
theorem ew_orO {m : Option Bool} (h : ET S a ρ ms t ms1) (hm : (if t = true then some true else m) = some u) (h1 : t = false → m = some u → EW S (.BoolOp .Or (b :: rest) pos) ρ ms1 u ms1) : EW S (.BoolOp .Or (a :: b :: rest) pos) ρ ms u ms1 :=
  ew_or h (fun z => h1 z (iteF' z hm)) (fun z => ⟨(someS (iteT' z hm)).symm, rfl⟩)
theorem ee_ifV {α : Type} (em : α → D) {v w : α} (h : ET S c ρ ms t ms1) (h1 : t = true → EE S a ρ ms1 (.dat (em v)) ms1) (h0 : t = false → EE S b ρ ms1 (.dat (em w)) ms1) : EE S (.IfExp c a b pos) ρ ms (.dat (em (if t = true then v else w))) ms1 := by
  refine ee_if h (fun z => ?_) (fun z => ?_)
  · rw [if_pos z]; exact h1 z
  · rw [if_neg (by rw [z]; decide)]; exact h0 z
theorem ee_ifO {α : Type} (em : α → D) {v : α} {m m' : Option α} (h : ET S c ρ ms t ms1) (hm : (if t = true then m else m') = some v) (h1 : t = true → m = some v → EE S a ρ ms1 (.dat (em v)) ms1) (h0 : t = false → m' = some v → EE S b ρ ms1 (.dat (em v)) ms1) : EE S (.IfExp c a b pos) ρ ms (.dat (em v)) ms1 :=
  ee_if h (fun z => h1 z (iteT' z hm)) (fun z => h0 z (iteF' z hm))
theorem ee_is (h : EE S e ρ ms r ms1) (q : r = r') : EE S e ρ ms r' ms1 := q ▸ h
theorem et_is (h : ET S e ρ ms t ms1) (q : t = u) : ET S e ρ ms u ms1 := q ▸ h
/-- x in a tuple of ints -/
theorem inV_int {i : Int} : ∀ {ns : List Int}, inV (.int i) (ns.map V.int) = decide (i ∈ ns)
  | [] => by unfold inV; simp
  | n :: ns => by
    have ih := inV_int (i := i) (ns := ns)
    unfold inV at ih ⊢
    rw [List.map_cons, List.any_cons, ih]
    show (n == i || decide (i ∈ ns)) = _
    by_cases h : n = i
    · subst h; simp
    · have h' : ¬ i = n := fun z => h z.symm
      simp [h, h']
theorem op2_inI {ns : List Int} : Op2 S (rIn S.K false) (.dat (.int i)) (.dat (.tuple (ns.map .int))) ms (.dat (.bool (decide (i ∈ ns)))) := fun as H0 H x y s h1 h2 Q k => by
  obtain ⟨p, xs, rfl, hq, ra⟩ := h2.tup
  rw [ra.ints] at hq
  refine ⟨p, _, rfl, .inr hq, by rw [h1.int]; rfl, by simp [flatV], ?_⟩
  rw [h1.int, if_neg (by decide), inV_int]
  exact k _ H .refl s rBool
theorem ee_inI {ns : List Int} (hm : behindInMarks .In b = false) (ha : EE S a ρ ms (.dat (.int i)) ms1) (hb : EE S b ρ ms1 (.dat (.tuple (ns.map .int))) ms2) : EE S (.Compare a [.In] [b] pos) ρ ms (.dat (.bool (decide (i ∈ ns)))) ms2 :=
  ee_cmp (fun X hX => by have h := op_in_seq (X := X); rw [hX.k] at h; exact h) hm op2_inI ha hb
theorem et_inI {ns : List Int} (hm : behindInMarks .In b = false) (ha : EE S a ρ ms (.dat (.int i)) ms1) (hb : EE S b ρ ms1 (.dat (.tuple (ns.map .int))) ms2) : ET S (.Compare a [.In] [b] pos) ρ ms (decide (i ∈ ns)) ms2 :=
  et_cmp (fun X hX => by have h := op_in_seq (X := X); rw [hX.k] at h; exact h) hm op2_inI ha hb
/-- bools: is -/
theorem op2_isB : Op2 S rIsB (.dat (.bool t)) (.dat (.bool u)) ms (.dat (.bool (decide (t = u)))) := fun as H0 H x y s h1 h2 Q k => ⟨t, u, h1.bool, h2.bool, k _ H .refl s rBool⟩
theorem op2_notB : Op2 S rNotB (.dat (.bool t)) (.dat (.bool u)) ms (.dat (.bool (!decide (t = u)))) := fun as H0 H x y s h1 h2 Q k => ⟨t, u, h1.bool, h2.bool, k _ H .refl s rBool⟩
theorem ee_isB (hm : behindInMarks .Is b = false) (ha : EE S a ρ ms (.dat (.bool t)) ms1) (hb : EE S b ρ ms1 (.dat (.bool u)) ms2) : EE S (.Compare a [.Is] [b] pos) ρ ms (.dat (.bool (decide (t = u)))) ms2 := ee_cmp (fun X hX => op_isBl) hm op2_isB ha hb
theorem et_isB (hm : behindInMarks .Is b = false) (ha : EE S a ρ ms (.dat (.bool t)) ms1) (hb : EE S b ρ ms1 (.dat (.bool u)) ms2) : ET S (.Compare a [.Is] [b] pos) ρ ms (decide (t = u)) ms2 := et_cmp (fun X hX => op_isBl) hm op2_isB ha hb
theorem ee_notB (hm : behindInMarks .IsNot b = false) (ha : EE S a ρ ms (.dat (.bool t)) ms1) (hb : EE S b ρ ms1 (.dat (.bool u)) ms2) : EE S (.Compare a [.IsNot] [b] pos) ρ ms (.dat (.bool (!decide (t = u)))) ms2 := ee_cmp (fun X hX => op_notBl) hm op2_notB ha hb
theorem et_notB (hm : behindInMarks .IsNot b = false) (ha : EE S a ρ ms (.dat (.bool t)) ms1) (hb : EE S b ρ ms1 (.dat (.bool u)) ms2) : ET S (.Compare a [.IsNot] [b] pos) ρ ms (!decide (t = u)) ms2 := et_cmp (fun X hX => op_notBl) hm op2_notB ha hb
/-- lists and tuples put together -/
theorem op2_cat (h1 : lres ms r1 = some ds1) (h2 : lres ms r2 = some ds2) (hz : ds1.length + ds2.length ≤ sizeLine) (n1 : ∀ ns, r1 ≠ .scr ns) (n2 : ∀ ns, r2 ≠ .scr ns) : Op2 S rCat r1 r2 ms (.new (ds1 ++ ds2)) := fun as H0 H x y s q1 q2 Q k => by
  have tr : ∀ {v : V} {r : Rs} {ds : List D}, RsOk S.K as H0 H v r → lres ms r = some ds → (∀ ns, r ≠ .scr ns) → ∃ p xs, v = .ref p ∧ H p = some (.lst xs) ∧ RA S.K as H xs ds := fun {v r ds} q h n => by
    cases r with
    | dat d =>
      cases d <;> try (cases h; done)
      cases h
      unfold RsOk R at q
      obtain ⟨p, xs, e, n, hp, q⟩ := q
      exact ⟨p, xs, e, hp, q⟩
    | new ds =>
      cases h
      obtain ⟨p, xs, e, n, np, hp, q⟩ := q
      exact ⟨p, xs, e, hp, RA.sub (fun a z => List.mem_cons_of_mem _ z) q⟩
    | mu k =>
      obtain ⟨p, rfl, hk⟩ := q
      obtain ⟨xs, q1, q2⟩ := s.2.2 k p ds hk h
      exact ⟨p, xs, rfl, q1, q2⟩
    | scr ns => exact absurd rfl (n ns)
    | ty T => cases h
  obtain ⟨p1, xs, rfl, e1, ra1⟩ := tr q1 h1 n1
  obtain ⟨p2, ys, rfl, e2, ra2⟩ := tr q2 h2 n2
  exact ⟨p1, p2, xs, ys, rfl, rfl, e1, e2, by rw [ra1.length, ra2.length]; exact hz, fun q hq => k _ _ (.new hq) (s.new hq) (.mkNew s .refl hq (ra1.app ra2))⟩
theorem ee_cat {α : Type} (f : α → D) {xs ys zs : List α} (ha : EE S a ρ ms r1 ms1) (hb : EE S b ρ ms1 r2 ms2) (h1 : lres ms2 r1 = some (xs.map f)) (h2 : lres ms2 r2 = some (ys.map f)) (h : catO xs ys = some zs) (n1 : ∀ ns, r1 ≠ .scr ns := by intro _ h; cases h) (n2 : ∀ ns, r2 ≠ .scr ns := by intro _ h; cases h) :
    EE S (.BinOp a .Add b pos) ρ ms (.new (zs.map f)) ms2 := by
  obtain ⟨hz, rfl⟩ := catO_some h
  rw [List.map_append]
  exact ee_op (fun _ _ => op_cat) (op2_cat h1 h2 (by rw [List.length_map, List.length_map]; exact hz) n1 n2) ha hb

/-! ### muOk: which lists an own def is given -/
theorem mu_nil : ∀ j, Rs.mu j ∈ ([] : List Rs) → S.n0 ≤ j ∨ S.tch j = true := fun _ h => by simp at h
theorem mu_dat (h : ∀ j, Rs.mu j ∈ rs → S.n0 ≤ j ∨ S.tch j = true) : ∀ j, Rs.mu j ∈ (.dat d :: rs) → S.n0 ≤ j ∨ S.tch j = true := fun j z => by
  rcases List.mem_cons.mp z with z | z
  · cases z
  · exact h j z
theorem mu_scr {ns : List Int} (h : ∀ j, Rs.mu j ∈ rs → S.n0 ≤ j ∨ S.tch j = true) : ∀ j, Rs.mu j ∈ (.scr ns :: rs) → S.n0 ≤ j ∨ S.tch j = true := fun j z => by
  rcases List.mem_cons.mp z with z | z
  · cases z
  · exact h j z
theorem mu_mu {k : Nat} (hk : S.n0 ≤ k ∨ S.tch k = true) (h : ∀ j, Rs.mu j ∈ rs → S.n0 ≤ j ∨ S.tch j = true) : ∀ j, Rs.mu j ∈ (.mu k :: rs) → S.n0 ≤ j ∨ S.tch j = true := fun j z => by
  rcases List.mem_cons.mp z with z | z
  · cases z; exact hk
  · exact h j z
theorem nomu_nil : ∀ j, ¬ Rs.mu j ∈ ([] : List Rs) := fun _ h => by simp at h
theorem nomu_dat (h : ∀ j, ¬ Rs.mu j ∈ rs) : ∀ j, ¬ Rs.mu j ∈ (.dat d :: rs) := fun j z => by
  rcases List.mem_cons.mp z with z | z
  · cases z
  · exact h j z
/-! ### ends of bodies -/
theorem fin_dat : Fin ms (.rt (.dat d) ms) (.dat d) := by
  have h := Fin.dat (ms' := ms) (d := d) (ex := [])
  rw [List.append_nil] at h; exact h
theorem fin_new : Fin ms (.rt (.new ds) ms) (.new ds) := by
  have h := Fin.new (ms' := ms) (ds := ds) (ex := [])
  rw [List.append_nil] at h; exact h
theorem fin_newd : Fin ms (.rt (.new ds) ms) (.dat (.list ds)) := by
  have h := Fin.newd (ms' := ms) (ds := ds) (ex := [])
  rw [List.append_nil] at h; exact h
theorem fin_none : Fin ms (.nx ρ ms) (.dat .none) := by
  have h := Fin.none (ms' := ms) (ρ := ρ) (ex := [])
  rw [List.append_nil] at h; exact h
theorem fin_noneX : Fin ms (.nx ρ (ms ++ tl)) (.dat .none) := .none
theorem turn_go {τ β : Type} {env : τ → Env'} {mst : τ → MS} {rr : β → Rs} {mr : β → MS} {s : τ} (h : LeE (mst s).length ρ (env s)) : TurnEnd env mst rr mr (.go s) (.nx ρ (mst s)) := ⟨ρ, [], .inl (by rw [List.append_nil]), h⟩
theorem turn_goX {τ β : Type} {env : τ → Env'} {mst : τ → MS} {rr : β → Rs} {mr : β → MS} {s : τ} (h : LeE (mst s).length ρ (env s)) : TurnEnd env mst rr mr (.go s) (.nx ρ (mst s ++ tl)) := ⟨ρ, tl, .inl rfl, h⟩
theorem turn_brk {τ β : Type} {env : τ → Env'} {mst : τ → MS} {rr : β → Rs} {mr : β → MS} {s : τ} (h : LeE (mst s).length ρ (env s)) : TurnEnd env mst rr mr (.brk s) (.bk ρ (mst s)) := ⟨ρ, [], by rw [List.append_nil], h⟩
theorem turn_ct {τ β : Type} {env : τ → Env'} {mst : τ → MS} {rr : β → Rs} {mr : β → MS} {s : τ} (h : LeE (mst s).length ρ (env s)) : TurnEnd env mst rr mr (.go s) (.ct ρ (mst s)) := ⟨ρ, [], .inr (by rw [List.append_nil]), h⟩
theorem thru_nx (h : LeE ms.length ρ ρ2) : Thru ρ2 ms (.nx ρ ms) := ⟨ρ, [], by rw [List.append_nil], h⟩

/-! ### comprehensions -/
theorem mapO_fmL {α β : Type} {m : α → Option β} : ∀ {xs : List α} {ys : List β}, mapO m xs = some ys → fmL (τ := Unit) (fun x s => (m x).map fun y => (some y, s)) xs () = some (ys, ())
  | [], ys, h => by cases h; rfl
  | x :: xs, ys, h => by
    unfold mapO at h
    obtain ⟨y, h1, h2⟩ := bindS h
    cases q : mapO m xs with
    | none => rw [q] at h2; cases h2
    | some zs =>
      rw [q] at h2
      cases (someS h2 : _ = ys)
      unfold fmL
      rw [h1, Option.map_some, Option.bind_some, mapO_fmL q]
      rfl
theorem fmO_fmL {α β : Type} {m : α → Option (Option β)} : ∀ {xs : List α} {ys : List β}, fmO m xs = some ys → fmL (τ := Unit) (fun x s => (m x).map fun y => (y, s)) xs () = some (ys, ())
  | [], ys, h => by cases h; rfl
  | x :: xs, ys, h => by
    unfold fmO at h
    obtain ⟨o, h1, h2⟩ := bindS h
    cases q : fmO m xs with
    | none => rw [q] at h2; cases h2
    | some zs =>
      rw [q] at h2
      cases (someS h2 : _ = ys)
      unfold fmL
      rw [h1, Option.map_some, Option.bind_some, fmO_fmL q]
      cases o <;> rfl
theorem mapS_fmL {α β τ : Type} {m : α → τ → Option (β × τ)} : ∀ {xs : List α} {s : τ} {q : List β × τ}, mapS m xs s = some q → fmL (fun x s => (m x s).map fun y => (some y.1, y.2)) xs s = some q
  | [], s, q, h => by cases h; rfl
  | x :: xs, s, q, h => by
    unfold mapS at h
    obtain ⟨y, h1, h2⟩ := bindS h
    cases q' : mapS m xs y.2 with
    | none => rw [q'] at h2; cases h2
    | some zs =>
      rw [q'] at h2
      cases (someS h2 : _ = q)
      unfold fmL
      rw [h1, Option.map_some, Option.bind_some, mapS_fmL q']
      rfl
/-- what a pure turn asks -/
def LcP {α β : Type} (S : Sx) (tg elt : Expr) (ρ : Env') (vs : List Nat) (ms : MS) (emb : α → D) (emb' : β → D) (x : α) (y : β) : Prop :=
  ∃ (ρx : Env') (sl : List Nat), (∀ i ∈ sl, i ∈ vs) ∧ EG S tg (emb x) ρ ρx sl ∧ ∃ r, EE S elt ρx ms r ms ∧ frz r = some (emb' y)
theorem turn_P {α β : Type} {S : Sx} {ρ : Env'} {vs : List Nat} {emb : α → D} {emb' : β → D} {m : α → Option β} {ms : MS} {x : α} {s s' : Unit} {o : Option β} {ex : MS}
    (hb : ∀ y, m x = some y → LcP S tg elt ρ vs (ms ++ ex) emb emb' x y) (h : ((m x).map fun y => (some y, s)) = some (o, s')) : LcTurn S tg elt [] ρ vs emb emb' (fun _ : Unit => ms) x s o s' ex := by
  cases q : m x with
  | none => rw [q] at h; cases h
  | some y =>
    rw [q] at h
    cases (someS h : _ = (o, s'))
    obtain ⟨ρx, sl, h1, h2, r, h3, h4⟩ := hb y q
    exact ⟨ρx, sl, h1, h2, _, ep_nil, r, h3, h4⟩
/-- [elt for tg in iter], pure -/
theorem ee_lcP {α β : Type} {scope : Scope} (own : List (Str × Nat)) (emb : α → D) (emb' : β → D) (xs : List α) (m : α → Option β) {G : MS → Prop} {ys : List β}
    (hN : S.N.Nodup) (ok : BlkOk S.N S.sc scope own) (hfs : ∀ env x, foldedSetIterable iter env x = pure x) (hi : IT S tg iter ρ ms (xs.map emb) ms1 G) (hG : ∀ ex, G (ms1 ++ ex)) (hn0 : S.n0 ≤ ms1.length)
    (hb : ∀ x ∈ xs, ∀ y ex, m x = some y → LcP (S.blk scope) tg elt (wipeE ρ (own.map (·.2))) (own.map (·.2)) (ms1 ++ ex) emb emb' x y)
    (hf : mapO m xs = some ys) (hz : xs.length ≤ sizeLine) : EE S (.ListComp elt [⟨tg, iter, [], 0⟩] scope pos) ρ ms (.new (ys.map emb')) ms1 :=
  ee_lc (τ := Unit) (s0 := ()) (s1 := ()) own emb emb' xs (fun x s => (m x).map fun y => (some y, s)) (fun _ => ms1) ms1.length hN ok hfs hi (fun _ ex => hG ex) (fun _ => rfl)
    (fun x hx s o s' ex h => turn_P (fun y => hb x hx y ex) h) (mapO_fmL hf) hz hn0
theorem ss_lcP {α β : Type} {scope : Scope} {epos : Pos} (i : Nat) (own : List (Str × Nat)) (emb : α → D) (emb' : β → D) (xs : List α) (m : α → Option β) {G : MS → Prop} {ys : List β}
    (hN : S.N.Nodup) (hx : S.N[i]? = some x) (hxl : S.sc.names.lookup x = some .local) (hsw : ∀ X, InS S X → swapsWith (.ListComp elt [⟨tg, iter, [], 0⟩] scope epos) (some (.Name x px)) pos.line X.env = pure true)
    (ok : BlkOk S.N S.sc scope own) (hfs : ∀ env x, foldedSetIterable iter env x = pure x) (hi : IT S tg iter ρ ms (xs.map emb) ms1 G) (hG : ∀ ex, G (ms1 ++ ex)) (hn0 : S.n0 ≤ ms1.length)
    (hb : ∀ x ∈ xs, ∀ y ex, m x = some y → LcP (S.blk scope) tg elt (wipeE ρ (own.map (·.2))) (own.map (·.2)) (ms1 ++ ex) emb emb' x y)
    (hf : mapO m xs = some ys) (hz : xs.length ≤ sizeLine) : SS S (.Assign [.Name x px] (.ListComp elt [⟨tg, iter, [], 0⟩] scope epos) pos) ρ ms (.nx (ρ.set i (.dat (.list (ys.map emb')))) ms1) :=
  ss_setLc (τ := Unit) (s0 := ()) (s1 := ()) i own emb emb' xs (fun x s => (m x).map fun y => (some y, s)) (fun _ => ms1) ms1.length hN hx hxl hsw ok hfs hi (fun _ ex => hG ex) (fun _ => rfl)
    (fun x hx s o s' ex h => turn_P (fun y => hb x hx y ex) h) (mapO_fmL hf) hz hn0
/-- what a turn with a test asks -/
def LcF {α β : Type} (S : Sx) (tg elt c : Expr) (ρ : Env') (vs : List Nat) (ms : MS) (emb : α → D) (emb' : β → D) (x : α) (o : Option β) : Prop :=
  ∃ (ρx : Env') (sl : List Nat), (∀ i ∈ sl, i ∈ vs) ∧ EG S tg (emb x) ρ ρx sl ∧ ∃ t, ET S c ρx ms t ms ∧ t = o.isSome ∧ ∀ y, o = some y → ∃ r, EE S elt ρx ms r ms ∧ frz r = some (emb' y)
theorem turn_F {α β : Type} {S : Sx} {ρ : Env'} {vs : List Nat} {emb : α → D} {emb' : β → D} {m : α → Option (Option β)} {ms : MS} {x : α} {s s' : Unit} {o : Option β} {ex : MS}
    (hb : ∀ o, m x = some o → LcF S tg elt c ρ vs (ms ++ ex) emb emb' x o) (h : ((m x).map fun y => (y, s)) = some (o, s')) : LcTurn S tg elt [c] ρ vs emb emb' (fun _ : Unit => ms) x s o s' ex := by
  cases q : m x with
  | none => rw [q] at h; cases h
  | some y =>
    rw [q] at h
    cases (someS h : _ = (o, s'))
    obtain ⟨ρx, sl, h1, h2, t, h3, h4, h5⟩ := hb _ q
    refine ⟨ρx, sl, h1, h2, _, h4 ▸ ep_one h3, ?_⟩
    cases o with
    | none => rfl
    | some y => exact h5 y rfl
theorem ee_lcF {α β : Type} {scope : Scope} (own : List (Str × Nat)) (emb : α → D) (emb' : β → D) (xs : List α) (m : α → Option (Option β)) {G : MS → Prop} {ys : List β}
    (hN : S.N.Nodup) (ok : BlkOk S.N S.sc scope own) (hfs : ∀ env x, foldedSetIterable iter env x = pure x) (hi : IT S tg iter ρ ms (xs.map emb) ms1 G) (hG : ∀ ex, G (ms1 ++ ex)) (hn0 : S.n0 ≤ ms1.length)
    (hb : ∀ x ∈ xs, ∀ o ex, m x = some o → LcF (S.blk scope) tg elt c (wipeE ρ (own.map (·.2))) (own.map (·.2)) (ms1 ++ ex) emb emb' x o)
    (hf : fmO m xs = some ys) (hz : xs.length ≤ sizeLine) : EE S (.ListComp elt [⟨tg, iter, [c], 0⟩] scope pos) ρ ms (.new (ys.map emb')) ms1 :=
  ee_lc (τ := Unit) (s0 := ()) (s1 := ()) own emb emb' xs (fun x s => (m x).map fun y => (y, s)) (fun _ => ms1) ms1.length hN ok hfs hi (fun _ ex => hG ex) (fun _ => rfl)
    (fun x hx s o s' ex h => turn_F (fun y => hb x hx y ex) h) (fmO_fmL hf) hz hn0

/-! ### dice: a list of two numbers that is handed down and changed -/
abbrev Dice := Int × Int
def eDice (d : Dice) : List D := [.int d.1, .int d.2]
def MD (mc : MS) (k : Nat) (d : Dice) : MS := mc.set k (eDice d)
theorem MD_len {k : Nat} {d : Dice} : (MD mc k d).length = mc.length := by unfold MD; simp
theorem MD_get {k : Nat} {d : Dice} (h : k < mc.length) : (MD mc k d)[k]? = some (eDice d) := by unfold MD; exact List.getElem?_set_self h
theorem MD_set {k : Nat} {d d' : Dice} : (MD mc k d).set k (eDice d') = MD mc k d' := by unfold MD; rw [List.set_set]
theorem MD_app {k : Nat} {d : Dice} (h : k < mc.length) : MD (mc ++ tl) k d = MD mc k d ++ tl := by unfold MD; rw [List.set_append_left _ _ h]
/-- an own def that is given dice first -/
def RelD (n : Nat) (A : List Rs → Dice → Rs → Dice → Prop) : Rel := fun rs ms r ms' => ∃ mc k d d' tl args, k < mc.length ∧ rs = .mu k :: args ∧ args.length + 1 = n ∧ ms = MD mc k d ++ tl ∧ ms' = MD mc k d' ++ tl ∧ A args d r d'
theorem ee_callD {k' n k : Nat} {A : List Rs → Dice → Rs → Dice → Prop} {d0 d d' : Dice} (hkm : k < mc.length) (Kf : KnS S k' x (RelD n A)) (hk : k' ≤ S.k) (hg : S.sc.names.lookup x = some .globalImplicit) (hn : rs.length + 1 = n)
    (ha : EA S (e :: es) ρ (MD mc k d0 ++ tl) (.mu k :: rs) (MD mc k d ++ tl)) (hA : A (rs.map arg) d r d') (ht : ∀ j, Rs.mu j ∈ (Rs.mu k :: rs.map arg) → S.n0 ≤ j ∨ S.tch j = true)
    (hd : (x == ("__debug__" : Str)) = false := by decide) (he : ∀ env, starEach (e :: es) env = (false, eval e env) :: starEach es env := by intro _; rfl) (hpl : ∀ env, (backTo pos (starEach es env)).any (·.1) = false := by intro _; rfl) :
    EE S (.Call (.Name x px) (e :: es) [] pos) ρ (MD mc k d0 ++ tl) r (MD mc k d' ++ tl) := by
  refine ee_call Kf hk hg ha ?_ ht hd he hpl
  exact ⟨mc, k, d, d', tl, rs.map arg, hkm, by simp [arg], by simpa using hn, rfl, rfl, hA⟩
theorem relD_len {n : Nat} {A : List Rs → Dice → Rs → Dice → Prop} : ∀ rs ms r ms', RelD n A rs ms r ms' → rs.length = n ∧ ms'.length = ms.length := by
  intro rs ms r ms' ⟨mc, k, d, d', tl, args, _, h1, h2, h3, h4, _⟩
  subst h1 h3 h4
  exact ⟨by simpa using h2, by simp [MD_len]⟩
theorem tch0 {k : Nat} : ((Rs.mu k :: rs).any fun r => match r with | .mu i => i == k | _ => false) = true := by simp
/-- lists of one's own: their places -/
theorem lkP {l : MS} {j : Nat} : (ms ++ l)[ms.length + j]? = l[j]? := by rw [List.getElem?_append_right (by omega)]; congr 1; omega
theorem lkD {l : MS} {k j : Nat} {d : Dice} : (MD mc k d ++ (tl ++ l))[mc.length + tl.length + j]? = l[j]? := by
  rw [List.getElem?_append_right (by rw [MD_len]; omega), List.getElem?_append_right (by rw [MD_len]; omega)]
  congr 1
  rw [MD_len]; omega
theorem stP {l : MS} {v : List D} {j : Nat} : (ms ++ l).set (ms.length + j) v = ms ++ l.set j v := by
  rw [List.set_append_right _ _ (by omega)]; congr 2; omega
theorem stD {l : MS} {v : List D} {k j : Nat} {d : Dice} : (MD mc k d ++ (tl ++ l)).set (mc.length + tl.length + j) v = MD mc k d ++ (tl ++ l.set j v) := by
  rw [List.set_append_right _ _ (by rw [MD_len]; omega), List.set_append_right _ _ (by rw [MD_len]; omega)]
  congr 3
  rw [MD_len]; omega
theorem ee_ms (h : EE S e ρ ms r ms1) (q : ms1 = ms2) : EE S e ρ ms r ms2 := q ▸ h
theorem ss_ms (h : SS S st ρ ms (.nx ρ1 ms1)) (q : ms1 = ms2) : SS S st ρ ms (.nx ρ1 ms2) := q ▸ h
theorem MD_put {k : Nat} {d d' : Dice} (h : k < mc.length) : (MD mc k d ++ tl).set k (eDice d') = MD mc k d' ++ tl := by
  rw [List.set_append_left _ _ (by rw [MD_len]; exact h), MD_set]
theorem MD_at {k : Nat} {d : Dice} (h : k < mc.length) : (MD mc k d ++ tl)[k]? = some (eDice d) := by
  rw [List.getElem?_append_left (by rw [MD_len]; exact h), MD_get h]
/-- [elt for tg in iter] with dice -/
def LcS {α β : Type} (S : Sx) (tg elt : Expr) (ρ : Env') (vs : List Nat) (mc : MS) (k : Nat) (tl : MS) (emb : α → D) (emb' : β → D) (x : α) (d : Dice) (y : β) (d' : Dice) : Prop :=
  ∃ (ρx : Env') (sl : List Nat), (∀ i ∈ sl, i ∈ vs) ∧ EG S tg (emb x) ρ ρx sl ∧ ∃ r, EE S elt ρx (MD mc k d ++ tl) r (MD mc k d' ++ tl) ∧ frz r = some (emb' y)
theorem turn_S {α β : Type} {S : Sx} {ρ : Env'} {vs : List Nat} {k : Nat} {emb : α → D} {emb' : β → D} {m : α → Dice → Option (β × Dice)} {x : α} {s s' : Dice} {o : Option β} {ex : MS}
    (hb : ∀ y, m x s = some y → LcS S tg elt ρ vs mc k (tl ++ ex) emb emb' x s y.1 y.2) (h : ((m x s).map fun y => (some y.1, y.2)) = some (o, s')) : LcTurn S tg elt [] ρ vs emb emb' (fun d : Dice => MD mc k d ++ tl) x s o s' ex := by
  cases q : m x s with
  | none => rw [q] at h; cases h
  | some y =>
    rw [q] at h
    cases (someS h : _ = (o, s'))
    obtain ⟨ρx, sl, h1, h2, r, h3, h4⟩ := hb y q
    exact ⟨ρx, sl, h1, h2, _, ep_nil, r, by rw [List.append_assoc, List.append_assoc]; exact h3, h4⟩
theorem ee_lcS {α β : Type} {scope : Scope} {k : Nat} (own : List (Str × Nat)) (emb : α → D) (emb' : β → D) (xs : List α) (m : α → Dice → Option (β × Dice)) {G : MS → Prop} {d0 : Dice} {q : List β × Dice}
    (hN : S.N.Nodup) (ok : BlkOk S.N S.sc scope own) (hfs : ∀ env x, foldedSetIterable iter env x = pure x) (hi : IT S tg iter ρ ms (xs.map emb) (MD mc k d0 ++ tl) G) (hG : ∀ s ex, G ((MD mc k s ++ tl) ++ ex)) (hn0 : S.n0 ≤ mc.length + tl.length)
    (hb : ∀ x ∈ xs, ∀ d y ex, m x d = some y → LcS (S.blk scope) tg elt (wipeE ρ (own.map (·.2))) (own.map (·.2)) mc k (tl ++ ex) emb emb' x d y.1 y.2)
    (hf : mapS m xs d0 = some q) (hz : xs.length ≤ sizeLine) : EE S (.ListComp elt [⟨tg, iter, [], 0⟩] scope pos) ρ ms (.new (q.1.map emb')) (MD mc k q.2 ++ tl) :=
  ee_lc (τ := Dice) (s0 := d0) (s1 := q.2) (ys := q.1) own emb emb' xs (fun x s => (m x s).map fun y => (some y.1, y.2)) (fun d => MD mc k d ++ tl) (mc.length + tl.length) hN ok hfs hi (fun s ex => hG s ex) (fun _ => by rw [List.length_append, MD_len])
    (fun x hx s o s' ex h => turn_S (fun y => hb x hx s y ex) h) (mapS_fmL hf) hz hn0
end
end Abs
namespace Abs
open PySem PySem.Spec PyProof.Rows L2
/-! ### enumerate(tuple); zip(list, tuple), zip(tuple, list) -/
set_option maxHeartbeats 1000000 in
theorem meets_enumB1 {v : Value} {o : Obj} {H : Heap → Prop} (B : Begins v o H) :
    Meets (Builtin.«enumerate.__new__» ⟨[.type "enumerate", v], []⟩) (fun _ R s => H s.heap ∧
      R (.ok (.ret (.ref (s.heap.push o).objs.size))) { s with heap := (s.heap.push o).push { cls := .type "enumerate", data := .fields #[.none, .bool false, .ref s.heap.objs.size, rawInt 0, .none, .none] } }) :=
  .of_wp fun prog w A R s h => by
    obtain ⟨hp, g, d, tk, os⟩ := s; obtain ⟨h1, h⟩ := h
    have hsub := sub_enumerate
    have q1 : ∀ {A' : Around} {E : Value → Shared → Prop} {Q : Value → Shared → Prop}, Q (.ref hp.objs.size) ⟨hp.push o, g, d, tk, os⟩ → wpAny (model prog w) A' (pyIter v) Q E ⟨hp, g, d, tk, os⟩ :=
      fun q => B.iter prog w _ _ ⟨hp, g, d, tk, os⟩ _ h1 q
    wp_walk using q1
    refine wpAny_stack_any fun st => wpAny_pure ?_
    split
    · rename_i c _ _ _ _ _
      cases (c == Value.type "enumerate")
      · wp_walk using q1
        exact ⟨_, rfl, h⟩
      · wp_walk using q1
        exact ⟨_, rfl, h⟩
    · wp_walk using q1
      exact ⟨_, rfl, h⟩
theorem enum_begins1 {prog : Program} {w : World} {A : Around} {E : Value → Shared → Prop} {s : Shared} {v : Value} {o : Obj} {H : Heap → Prop} {Q : Value → Shared → Prop} (B : Begins v o H) (h1 : H s.heap)
    (hfit : True)
    (h : ∀ h', IsEnum h' (s.heap.objs.size + 1) s.heap.objs.size 0 .none → h'.get? s.heap.objs.size = some o → h'.objs.size = s.heap.objs.size + 2 →
      (∀ b o, s.heap.get? b = some o → h'.get? b = some o) → Q (.ref (s.heap.objs.size + 1)) { s with heap := h' }) :
    wpAny (model prog w) A (call (.type "enumerate") [v]) Q E s := by
  refine callType_new F.called_enumerate (by decide) (F.typeCall_enumerate_1 _) (F.newCall_enumerate_1 _) (fun obj => F.args_object_init_2 obj _) F.entry_enumerate_new
    (meets_enumB1 B) ⟨h1, ?_⟩
  have hz : (s.heap.push o).objs.size = s.heap.objs.size + 1 := Heap.size_push ..
  show _ ∧ _
  rw [hz]
  have he : IsEnum ((s.heap.push o).push { cls := .type "enumerate", data := .fields #[.none, .bool false, .ref s.heap.objs.size, rawInt 0, .none, .none] }) (s.heap.objs.size + 1) s.heap.objs.size 0 .none := by
    have := Heap.get?_push_size (s.heap.push o) (o := { cls := .type "enumerate", data := .fields #[.none, .bool false, .ref s.heap.objs.size, rawInt 0, .none, .none] }) rfl
    rw [hz] at this; exact this
  refine ⟨⟨_, he, rfl⟩, h _ he (Heap.get?_push_of_some _ (Heap.get?_push_size _ B.free)) (by rw [Heap.size_push, hz]) fun b o x => Heap.get?_push_of_some _ (Heap.get?_push_of_some _ x)⟩
def IteT (K : PySem.W.Frag) (a : Addr) : It :=
  ⟨fun i H => ∃ (xs : List V) (x : V), SqT K H a xs ∧ xs[i]? = some x, fun i H v H' => ∃ T x, v = .ref T ∧ H T = none ∧ H' = upd H T (.tup [.int (i : Nat), x]) ∧ ∀ xs, SqT K H a xs → xs[i]? = some x, fun i H => ∃ xs : List V, SqT K H a xs ∧ xs.length = i⟩
theorem turn_enumT {P : Program} {w : World} {K : PySem.W.Frag} {elts : List Expr} {kk : Nat} {tpos : Pos} (a e it : Addr) (hea : e ≠ a) (hia : it ≠ a) :
    Turn P w K (.Tuple elts kk tpos) (IteT K a) [e, it] e (fun i h => (∃ old, IsEnum h e it ((i : Nat) : Int) old) ∧ h.IsTupleIter it a i ∧ e ≠ it) where
  mem := by simp
  obj := fun i h st b hb => by
    obtain ⟨⟨old, he⟩, ⟨o, ho, hc, hd⟩, _⟩ := st
    have e' : b = e ∨ b = it := by simpa using hb
    rcases e' with z | z
    · rw [z]; exact ⟨_, he, fun v q => nomatch q⟩
    · rw [z]; exact ⟨o, ho, fun v q => by rw [hd] at q; cases q⟩
  keep := fun i h h' st k => let ⟨⟨old, he⟩, hi, hne⟩ := st; ⟨⟨old, k e (by simp) _ he⟩, hi.at fun o q => k it (by simp) o q, hne⟩
  item := by
    intro X hP hw hK hc i pins s σ H E I hf st hg
    subst hP hw hK
    obtain ⟨⟨old, he⟩, hit, hne⟩ := st
    obtain ⟨xs, x, hq, hx⟩ := hg
    obtain ⟨its, rv, p, hz⟩ := I.tuple hq
    obtain ⟨u, hu, ru⟩ := rv.get hx
    have hel : e < s.heap.objs.size := Heap.lt_size he
    have hil : it < s.heap.objs.size := by obtain ⟨_, q, _⟩ := hit; exact Heap.lt_size q
    have hlt : i < its.toArray.size := by
      have := (List.getElem?_eq_some_iff.mp hu).1
      simpa using this
    refine wpAny_pyNext_enum_itemD (Draws.tuple (prog := X.prog) (w := X.w) (A := X.A.in1) (show X.A.in1.handled = none from I.ok.hd hc) it a (Ne.symm hia) its.toArray) he ⟨hit, (show s.heap.IsTuple a its.toArray from p)⟩ hlt hne (fun z => ?_) fun y h' tk hP ho hst' hT hsz hk => ?_
    · have z : e = it ∨ e = a := by simpa using z
      exact z.elim hne hea
    have hy : y = u := by
      rw [show its.toArray[i]? = some u by simpa using hu] at hP
      exact (Option.some.inj hP).symm
    subst hy
    refine ⟨_, rfl, wpAny_letOwnedTupleGo_enum (s := { s with heap := h', toks := tk + 1 }) ho fun h'' he' sb => ?_⟩
    have hT2 : h''.get? s.heap.objs.size = some { cls := .type "tuple", data := .seq #[.int i tk, y] } := (sb.2 _ (Nat.ne_of_gt hel)).trans hT
    have new : ObjOk X.prog X.w (upd H s.heap.objs.size (.tup [.int (i : Nat), x])) h'' s.heap.objs.size (.tup [.int (i : Nat), x]) :=
      ⟨by show 2 ≤ sizeLine; decide, [.int i tk, y], .cons ⟨_, rfl⟩ (.cons ru .nil), ⟨_, hT2, rfl, _, rfl⟩⟩
    have I1 : Inv X pins σ (upd H s.heap.objs.size (.tup [.int (i : Nat), x])) { s with heap := h'', toks := tk + 1 } :=
      I.turnedNew (ch := [e, it]) (fun b ob hb q => (sb.2 b (fun z => hb (by simp [z]))).trans (hk b ob (fun z => hb (by simp [z])) (fun z => hb (by simp [z])) q)) hf (Nat.le_refl _) new
    refine ⟨.ref s.heap.objs.size, _, I1, rfl, ⟨_, x, rfl, I.hok.fresh (Nat.le_refl _), rfl, fun ys hy => by rw [I.tuple_inj hy hq]; exact hx⟩, ⟨⟨y, ?_⟩, hst'.1.at fun o q => (sb.2 it (Ne.symm hne)).trans q, hne⟩, fun b hb => ?_⟩
    · have e1 : ((i + 1 : Nat) : Int) = (i : Int) + 1 := by omega
      rw [e1]; exact he'
    · have hb' : b < s.heap.objs.size := by
        have e' : b = e ∨ b = it := by simpa using hb
        rcases e' with z | z
        · rw [z]; exact hel
        · rw [z]; exact hil
      rw [upd_ne (Nat.ne_of_lt hb')]
      exact (hf b hb).1
  done := by
    intro X hP hw hK hc i pins s σ H E I hf st hg
    subst hP hw hK
    obtain ⟨⟨old, he⟩, hit, hne⟩ := st
    obtain ⟨xs, hq, hx⟩ := hg
    obtain ⟨its, rv, p, hz⟩ := I.tuple hq
    have hl := rv.length
    have hi : i = its.toArray.size := by simp; omega
    refine wpAny_pyNext_enum_endD (Draws.tuple (prog := X.prog) (w := X.w) (A := X.A.in1) (show X.A.in1.handled = none from I.ok.hd hc) it a (Ne.symm hia) its.toArray) he ⟨by rw [← hi]; exact hit, (show s.heap.IsTuple a its.toArray from p)⟩ fun h' eb => ⟨rfl, ?_⟩
    obtain ⟨f0, f1, f2, f3, f4, f5⟩ := hf it (by simp)
    exact I.turned (t' := s.toks) (fun b o hb q => eb b o hb q) f0 f1 f3 f4 f5
  self := fun A i s Q E st h => let ⟨⟨_, he⟩, _⟩ := st; wpAny_pyIter_enum he h
def iEnumT (K : PySem.W.Frag) (ta : TA) : TI := fun σ H R => ta σ H fun vs H1 => ∃ a xs, vs = [.ref a] ∧ SqT K H1 a xs ∧ R (IteT K a) H1
theorem pi_enumT {X : Cx} {e : Expr} {ta : TA} {p pos tpos : Pos} {elts : List Expr} {kk : Nat} (hg : Gl X "enumerate") (hm : X.mg "enumerate" = none) (ha : PA X [e] ta) (hs : starEach [e] X.env = [(false, eval e X.env)] := by rfl) :
    PI X (.Tuple elts kk tpos) (.Call (.Name "enumerate" p) [e] [] pos) (iEnumT X.K ta) := by
  refine ⟨fun pins s σ H R I h => ?_⟩
  refine Call_ (ld_blt I hg hm boot_enumerate (PyProof.Rows.callWith_type1 (thn (ha.run pos pins s σ H _ I h) fun us s1 ⟨vs, H1, I1, r1, q1⟩ => ?_) hs rfl))
  obtain ⟨a, xs, ex, hq, q⟩ := q1
  subst ex
  cases r1 with
  | cons r rr =>
    cases rr
    cases r
    obtain ⟨its, rv, p', hz⟩ := I1.tuple hq
    have hal : a < s1.heap.objs.size := by
      obtain ⟨o, ho, _⟩ := id p'
      exact Heap.lt_size ho
    refine enum_begins1 (begins_tuple a its.toArray) (show s1.heap.IsTuple a its.toArray from p') trivial fun h' he hit hsz hk => wpAny_pyIter_enum he ?_
    have I2 : Inv X pins σ H1 { s1 with heap := h' } := I1.kept (t' := s1.toks) hk
    refine ⟨s1.heap.objs.size + 1, [s1.heap.objs.size + 1, s1.heap.objs.size], _, _, H1, rfl, I2, turn_enumT a (s1.heap.objs.size + 1) s1.heap.objs.size (Nat.ne_of_gt (Nat.lt_succ_of_lt hal)) (Nat.ne_of_gt hal), ⟨⟨.none, he⟩, ⟨_, hit, rfl, rfl⟩, Nat.succ_ne_self _⟩, fun b hb => ?_, q⟩
    have e' : b = s1.heap.objs.size + 1 ∨ b = s1.heap.objs.size := by simpa using hb
    have hle : s1.heap.objs.size ≤ b := by
      rcases e' with z | z
      · rw [z]; exact Nat.le_add_right _ _
      · rw [z]; exact Nat.le_refl _
    exact I1.fpOk hle (I1.hok.fresh hle)
/-- zip of a list and a tuple -/
def ItzM (K : PySem.W.Frag) (a b : Addr) : It :=
  ⟨fun i H => ∃ (xs ys : List V) (x y : V), SqL K H a xs ∧ SqT K H b ys ∧ xs[i]? = some x ∧ ys[i]? = some y,
    fun i H v H' => ∃ T x y, v = .ref T ∧ H T = none ∧ H' = upd H T (.tup [x, y]) ∧ (∀ xs, SqL K H a xs → xs[i]? = some x) ∧ ∀ ys, SqT K H b ys → ys[i]? = some y,
    fun i H => ∃ xs ys : List V, SqL K H a xs ∧ SqT K H b ys ∧ i ≤ xs.length ∧ i ≤ ys.length ∧ (i = xs.length ∨ i = ys.length)⟩
theorem sep_of {a b z TI TO i1 i2 : Addr} (D : ZipApart z TI TO i1 i2 a b) : ZipSep2 z TI TO i1 i2 [i1, a] [i2, b] := by
  refine ⟨D.TIz, D.TOz, D.TITO, D.TIi1, by simp, ?_, ?_, D.TIi2, by simp, ?_, ?_, ?_, ?_⟩
  · simp [Ne.symm D.i1z, Ne.symm D.l1z]
  · simp [D.TOi1, Ne.symm D.l1TO]
  · simp [Ne.symm D.i2z, Ne.symm D.l2z]
  · simp [D.TOi2, Ne.symm D.l2TO]
  · simp [D.i12, Ne.symm D.l2i1]
  · simp [Ne.symm D.i12, Ne.symm D.l1i2]
theorem turn_zipM {P : Program} {w : World} {K : PySem.W.Frag} {elts : List Expr} {kk : Nat} {tpos : Pos} {a b z TI TO i1 i2 : Addr} (D : ZipApart z TI TO i1 i2 a b) :
    Turn P w K (.Tuple elts kk tpos) (ItzM K a b) [z, TI, TO, i1, i2] z (fun i h => IsZip h z TI TO .none ∧ IsPair h TI (.ref i1) (.ref i2) ∧ (∃ x y, IsPair h TO x y) ∧ h.IsListIter i1 a i ∧ h.IsTupleIter i2 b i) where
  mem := by simp
  obj := fun i h st c hc => by
    obtain ⟨hz, hTI, ⟨x, y, hTO⟩, ⟨o1, e1, _, d1⟩, ⟨o2, e2, _, d2⟩⟩ := st
    have e' : c = z ∨ c = TI ∨ c = TO ∨ c = i1 ∨ c = i2 := by simpa using hc
    rcases e' with q | q | q | q | q
    · rw [q]; exact ⟨_, hz, fun v q => nomatch q⟩
    · rw [q]; exact ⟨_, hTI, fun v q => nomatch q⟩
    · rw [q]; exact ⟨_, hTO, fun v q => nomatch q⟩
    · rw [q]; exact ⟨o1, e1, fun v q => by rw [d1] at q; cases q⟩
    · rw [q]; exact ⟨o2, e2, fun v q => by rw [d2] at q; cases q⟩
  keep := fun i h h' st k => by
    obtain ⟨hz, hTI, ⟨x, y, hTO⟩, h1, h2⟩ := st
    exact ⟨k z (by simp) _ hz, k TI (by simp) _ hTI, ⟨x, y, k TO (by simp) _ hTO⟩, h1.at fun o q => k i1 (by simp) o q, h2.at fun o q => k i2 (by simp) o q⟩
  item := by
    intro X hP hw hK hc i pins s σ H E I hf st hg
    subst hP hw hK
    obtain ⟨hz, hTI, ⟨x0, y0, hTO⟩, h1, h2⟩ := st
    obtain ⟨xs, ys, x, y, hqx, hqy, hx, hy⟩ := hg
    obtain ⟨its, rv, p, _⟩ := I.list hqx
    obtain ⟨its2, rv2, p2, _⟩ := I.tuple hqy
    obtain ⟨u, hu, ru⟩ := rv.get hx
    obtain ⟨u2, hu2, ru2⟩ := rv2.get hy
    have hzl : z < s.heap.objs.size := Heap.lt_size hz
    have lt1 : i < its.toArray.size := by
      have := (List.getElem?_eq_some_iff.mp hu).1
      simpa using this
    have lt2 : i < its2.toArray.size := by
      have := (List.getElem?_eq_some_iff.mp hu2).1
      simpa using this
    have hh : X.A.in1.handled = none := I.ok.hd hc
    refine wpAny_pyNext_zipD2_item (sep_of D) (Draws.list (prog := X.prog) (w := X.w) (A := X.A.in1) hh i1 a D.l1i1 its.toArray) (Draws.tuple (prog := X.prog) (w := X.w) (A := X.A.in1) hh i2 b D.l2i2 its2.toArray)
      hz hTI hTO ⟨h1, p.isList⟩ ⟨h2, (show s.heap.IsTuple b its2.toArray from p2)⟩ lt1 lt2 fun v1 v2 h' tk hP1 hP2 z' TO' h1' h2' hT hsz hk => ?_
    have e1 : v1 = u := by
      rw [show its.toArray[i]? = some u by simpa using hu] at hP1
      exact (Option.some.inj hP1).symm
    have e2 : v2 = u2 := by
      rw [show its2.toArray[i]? = some u2 by simpa using hu2] at hP2
      exact (Option.some.inj hP2).symm
    subst e1 e2
    refine ⟨_, rfl, wpAny_letOwnedTupleGo_zip (s := { s with heap := h', toks := tk }) z' fun h'' z'' sb => ?_⟩
    have hT2 : h''.get? s.heap.objs.size = some { cls := .type "tuple", data := .seq #[v1, v2] } := (sb.2 _ (Nat.ne_of_gt hzl)).trans hT
    have new : ObjOk X.prog X.w (upd H s.heap.objs.size (.tup [x, y])) h'' s.heap.objs.size (.tup [x, y]) :=
      ⟨by show 2 ≤ sizeLine; decide, [v1, v2], .cons ru (.cons ru2 .nil), ⟨_, hT2, rfl, _, rfl⟩⟩
    have I1 : Inv X pins σ (upd H s.heap.objs.size (.tup [x, y])) { s with heap := h'', toks := tk } :=
      I.turnedNew (t' := tk) (ch := [z, TI, TO, i1, i2]) (fun c o hb q => (sb.2 c (fun q' => hb (by simp [q']))).trans (hk c o (fun q' => hb (by simp [q'])) (fun q' => hb (by simp [q'])) (fun q' => hb (by simp [q'])) (fun q' => hb (by simp [q'])) q)) hf (Nat.le_refl _) new
    refine ⟨.ref s.heap.objs.size, _, I1, rfl, ⟨_, x, y, rfl, I.hok.fresh (Nat.le_refl _), rfl, fun l hl => by rw [I.list_inj hl hqx]; exact hx, fun l hl => by rw [I.tuple_inj hl hqy]; exact hy⟩, ⟨z'', ?_, ⟨v1, v2, ?_⟩, ?_, ?_⟩, fun c hcm => ?_⟩
    · exact (sb.2 _ D.TIz).trans (hk _ _ D.TIz D.TITO D.TIi1 D.TIi2 hTI)
    · exact (sb.2 _ D.TOz).trans TO'
    · exact h1'.1.at fun o q => (sb.2 _ D.i1z).trans q
    · exact h2'.1.at fun o q => (sb.2 _ D.i2z).trans q
    · have hlt : c < s.heap.objs.size := by
        have e' : c = z ∨ c = TI ∨ c = TO ∨ c = i1 ∨ c = i2 := by simpa using hcm
        rcases e' with q | q | q | q | q
        · rw [q]; exact hzl
        · rw [q]; exact Heap.lt_size hTI
        · rw [q]; exact Heap.lt_size hTO
        · rw [q]; obtain ⟨_, e1, _⟩ := h1; exact Heap.lt_size e1
        · rw [q]; obtain ⟨_, e2, _⟩ := h2; exact Heap.lt_size e2
      rw [upd_ne (Nat.ne_of_lt hlt)]
      exact (hf c hcm).1
  done := by
    intro X hP hw hK hc i pins s σ H E I hf st hg
    subst hP hw hK
    obtain ⟨hz, hTI, ⟨x0, y0, hTO⟩, h1, h2⟩ := st
    obtain ⟨xs, ys, hqx, hqy, hl1, hl2, hend⟩ := hg
    obtain ⟨its, rv, p, _⟩ := I.list hqx
    obtain ⟨its2, rv2, p2, _⟩ := I.tuple hqy
    have l1 := rv.length
    have l2 := rv2.length
    have hh : X.A.in1.handled = none := I.ok.hd hc
    exact wpAny_pyNext_zipD2_end (sep_of D) (Draws.list (prog := X.prog) (w := X.w) (A := X.A.in1) hh i1 a D.l1i1 its.toArray) (Draws.tuple (prog := X.prog) (w := X.w) (A := X.A.in1) hh i2 b D.l2i2 its2.toArray)
      hz hTI hTO ⟨h1, p.isList⟩ ⟨h2, (show s.heap.IsTuple b its2.toArray from p2)⟩ (by simp; omega) (by simp; omega) (by simp; omega) fun h' tk hk => ⟨rfl, I.turnedL (t' := tk) (ch := [z, TI, TO, i1, i2]) (fun c o hb q =>
      hk c o (fun q' => hb (by simp [q'])) (fun q' => hb (by simp [q'])) (fun q' => hb (by simp [q'])) (fun q' => hb (by simp [q'])) q) hf⟩
  self := fun A i s Q E st h => wpAny_pyIter_zip st.1 h
def iZipM (K : PySem.W.Frag) (ta : TA) : TI := fun σ H R => ta σ H fun vs H1 => ∃ a b xs ys, vs = [.ref a, .ref b] ∧ SqL K H1 a xs ∧ SqT K H1 b ys ∧ R (ItzM K a b) H1
theorem pi_zipM {X : Cx} {e e2 : Expr} {ta : TA} {p pos tpos : Pos} {elts : List Expr} {kk : Nat} (hg : Gl X "zip") (hm : X.mg "zip" = none) (ha : PA X [e, e2] ta)
    (hs : starEach [e, e2] X.env = (false, eval e X.env) :: starEach [e2] X.env := by rfl) (hpl : (backTo pos (starEach [e2] X.env)).any (·.1) = false := by rfl) :
    PI X (.Tuple elts kk tpos) (.Call (.Name "zip" p) [e, e2] [] pos) (iZipM X.K ta) := by
  refine ⟨fun pins s σ H R I h => ?_⟩
  refine Call_ (ld_blt I hg hm PyProof.Rows.boot_zip (PyProof.Rows.callWith_type1 (thn (ha.run pos pins s σ H _ I h) fun us s1 ⟨vs, H1, I1, r1, q1⟩ => ?_) hs hpl))
  obtain ⟨a, b, xs, ys, ex, hqx, hqy, q⟩ := q1
  subst ex
  cases r1 with
  | cons r rr =>
    cases rr with
    | cons r' rr =>
      cases rr
      cases r
      cases r'
      obtain ⟨its, rv, p1, _⟩ := I1.list hqx
      obtain ⟨its2, rv2, p2, _⟩ := I1.tuple hqy
      obtain ⟨o2, ho2, _⟩ := id p2
      have la : a < s1.heap.objs.size := p1.lt
      have lb : b < s1.heap.objs.size := Heap.lt_size ho2
      refine zip_begins2 (begins_list a its.toArray) (begins_tuple b its2.toArray) p1.isList (show s1.heap.IsTuple b its2.toArray from p2) fun h' hz hTI hTO h1 h2 hsz hk => wpAny_pyIter_zip hz ?_
      have I2 : Inv X pins σ H1 { s1 with heap := h' } := I1.kept (t' := s1.toks) hk
      refine ⟨s1.heap.objs.size + 4, [s1.heap.objs.size + 4, s1.heap.objs.size + 2, s1.heap.objs.size + 3, s1.heap.objs.size, s1.heap.objs.size + 1], _, _, H1, rfl, I2, turn_zipM (PySem.W.ktu_apart s1.heap.objs.size a b la lb), ⟨hz, hTI, ⟨_, _, hTO⟩, ⟨_, h1, rfl, rfl⟩, ⟨_, h2, rfl, rfl⟩⟩, fun c hcm => ?_, q⟩
      have e' : c = s1.heap.objs.size + 4 ∨ c = s1.heap.objs.size + 2 ∨ c = s1.heap.objs.size + 3 ∨ c = s1.heap.objs.size ∨ c = s1.heap.objs.size + 1 := by simpa using hcm
      have hle : s1.heap.objs.size ≤ c := by
        rcases e' with z | z | z | z | z
        · rw [z]; exact Nat.le_add_right _ _
        · rw [z]; exact Nat.le_add_right _ _
        · rw [z]; exact Nat.le_add_right _ _
        · rw [z]; exact Nat.le_refl _
        · rw [z]; exact Nat.le_add_right _ _
      exact I1.fpOk hle (I1.hok.fresh hle)
end Abs
namespace Abs
open PySem PySem.Spec PyProof.Rows L2
theorem boolCases (b : Bool) : b = true ∨ b = false := by cases b <;> simp
def intD : D → Option Int
  | .int i => some i
  | _ => none
theorem intD_some {d : D} {i : Int} (h : intD d = some i) : d = .int i := by
  cases d <;> first | (cases h; done) | (cases (someS h : _ = i); rfl)
def boolD : D → Option Bool
  | .bool i => some i
  | _ => none
theorem boolD_some {d : D} {i : Bool} (h : boolD d = some i) : d = .bool i := by
  cases d <;> first | (cases h; done) | (cases (someS h : _ = i); rfl)
def tupD : D → Option (List D)
  | .tuple i => some i
  | _ => none
theorem tupD_some {d : D} {i : List D} (h : tupD d = some i) : d = .tuple i := by
  cases d <;> first | (cases h; done) | (cases (someS h : _ = i); rfl)
def asN2 {α : Type} : List α → Option (α × α)
  | [a, b] => some (a, b)
  | _ => none
def asN3 {α : Type} : List α → Option (α × α × α)
  | [a, b, c] => some (a, b, c)
  | _ => none
theorem asN2_some {α : Type} {l : List α} {p : α × α} (h : asN2 l = some p) : l = [p.1, p.2] := by
  unfold asN2 at h
  split at h
  · cases (someS h : _ = p); rfl
  · cases h
theorem asN3_some {α : Type} {l : List α} {p : α × α × α} (h : asN3 l = some p) : l = [p.1, p.2.1, p.2.2] := by
  unfold asN3 at h
  split at h
  · cases (someS h : _ = p); rfl
  · cases h
def isN : D → Bool
  | .none => true
  | _ => false
def enumG {α : Type} : Nat → List α → List (Int × α)
  | _, [] => []
  | n, x :: xs => ((n : Int), x) :: enumG (n + 1) xs
def enumL {α : Type} (l : List α) : List (Int × α) := enumG 0 l
theorem enumG_get {α : Type} : ∀ (n : Nat) (l : List α) (i : Nat), (enumG n l)[i]? = (l[i]?).map fun x => (((n + i : Nat) : Int), x)
  | n, [], i => by simp [enumG]
  | n, x :: xs, 0 => by simp [enumG]
  | n, x :: xs, i + 1 => by
    unfold enumG
    rw [List.getElem?_cons_succ, List.getElem?_cons_succ, enumG_get (n + 1) xs i]
    congr 1
    funext y
    congr 2
    omega
theorem enumG_len {α : Type} : ∀ (n : Nat) (l : List α), (enumG n l).length = l.length
  | _, [] => rfl
  | n, x :: xs => by
    show (enumG (n + 1) xs).length + 1 = xs.length + 1
    rw [enumG_len]
def env0 (sc : Scope) : Env := { scope := sc, locals := 0, globals := 0, cells := [] }
theorem sp_env {env env' : Env} (h : env.scope = env'.scope) (e : Expr) (t : Option Expr) (l : Nat) : swapsWith e t l env = swapsWith e t l env' := by
  unfold swapsWith Env.blockKind Env.kindOf
  rw [h]
theorem sw_env {env env' : Env} (h : env.scope = env'.scope) (t : List Expr) (e : Expr) : swappedStores t e env = swappedStores t e env' := by
  unfold swappedStores Env.blockKind Env.kindOf
  rw [h]
def FUEL : Nat := 1000
theorem lnOk {α : Type} {l : List α} (n : Nat) (h : l.length = n) (hn : n ≤ sizeLine) : l.length ≤ sizeLine := h ▸ hn
theorem MD_lenN {mc tl : MS} {k : Nat} {d : Dice} : (MD mc k d ++ tl).length = mc.length + tl.length := by rw [List.length_append, MD_len]
theorem MD_lenN1 {mc tl : MS} {k : Nat} {d : Dice} {x : List D} : (MD mc k d ++ (tl ++ [x])).length = mc.length + tl.length + 1 := by simp [MD_len]; omega
theorem MD_lenN2 {mc tl : MS} {k : Nat} {d : Dice} {x y : List D} : (MD mc k d ++ (tl ++ [x, y])).length = mc.length + tl.length + 2 := by simp [MD_len]; omega
theorem lenA1 {ms : MS} {x : List D} : (ms ++ [x]).length = ms.length + 1 := by simp
theorem lenA2 {ms : MS} {x y : List D} : (ms ++ [x, y]).length = ms.length + 2 := by simp
section
variable {S : Sx} {K : PySem.W.Frag} {as as1 as2 : List Addr} {H H1 H2 H' : Hp} {ms ms1 ms2 ms3 ms' mc tl : MS} {ρ ρ1 ρ2 ρ' : Env'} {σ : L2.St} {e a b c tg iter elt : Expr} {es ifs rest : List Expr} {r r' r1 r2 r3 : Rs} {rs : List Rs} {o : Out} {st : Stmt} {bd sts p q : List Stmt} {pos px : Pos} {t u : Bool} {i j k : Int} {x y z : Str} {d d1 d2 d3 : D} {ds ds1 ds2 : List D} {Φ : Out → Prop}
theorem resMu {k : Nat} : res ms (.mu k) = (ms[k]?).map .list := rfl
theorem lresMu {k : Nat} : lres ms (.mu k) = ms[k]? := rfl
theorem ew_andD {k : Nat} {d : Dice} {q : Bool × Dice} {m : Option (Bool × Dice)} (h : ET S a ρ ms t (MD mc k d ++ tl)) (hm : (if t = true then m else some (false, d)) = some q) (h1 : t = true → m = some q → EW S (.BoolOp .And (b :: rest) pos) ρ (MD mc k d ++ tl) q.1 (MD mc k q.2 ++ tl)) : EW S (.BoolOp .And (a :: b :: rest) pos) ρ ms q.1 (MD mc k q.2 ++ tl) :=
  ew_and h (fun z => h1 z (iteT' z hm)) (fun z => by
    have e := someS (iteF' z hm)
    subst e
    exact ⟨rfl, rfl⟩)
theorem ew_orD {k : Nat} {d : Dice} {q : Bool × Dice} {m : Option (Bool × Dice)} (h : ET S a ρ ms t (MD mc k d ++ tl)) (hm : (if t = true then some (true, d) else m) = some q) (h1 : t = false → m = some q → EW S (.BoolOp .Or (b :: rest) pos) ρ (MD mc k d ++ tl) q.1 (MD mc k q.2 ++ tl)) : EW S (.BoolOp .Or (a :: b :: rest) pos) ρ ms q.1 (MD mc k q.2 ++ tl) :=
  ew_or h (fun z => h1 z (iteF' z hm)) (fun z => by
    have e := someS (iteT' z hm)
    subst e
    exact ⟨rfl, rfl⟩)
theorem ee_ifD {α : Type} {k : Nat} {d : Dice} (em : α → D) {q : α × Dice} {m m' : Option (α × Dice)} (h : ET S c ρ ms t (MD mc k d ++ tl)) (hm : (if t = true then m else m') = some q) (h1 : t = true → m = some q → EE S a ρ (MD mc k d ++ tl) (.dat (em q.1)) (MD mc k q.2 ++ tl)) (h0 : t = false → m' = some q → EE S b ρ (MD mc k d ++ tl) (.dat (em q.1)) (MD mc k q.2 ++ tl)) : EE S (.IfExp c a b pos) ρ ms (.dat (em q.1)) (MD mc k q.2 ++ tl) :=
  ee_if h (fun z => h1 z (iteT' z hm)) (fun z => h0 z (iteF' z hm))
theorem R.isN {v : V} : ∀ {d : D}, R K as H v d → decide (v = .non) = isN d
  | .none, h => by unfold R at h; subst h; rfl
  | .bool _, h => by unfold R at h; subst h; rfl
  | .int _, h => by unfold R at h; subst h; rfl
  | .str _, h => by unfold R at h; subst h; rfl
  | .list ds, h => by unfold R at h; obtain ⟨a, xs, rfl, _⟩ := h; rfl
  | .tuple ds, h => by unfold R at h; obtain ⟨a, xs, rfl, _⟩ := h; rfl
  | .dict _, h => by unfold R at h; exact h.elim
theorem op2_isN : Op2 S (fun x y H Q => y = .non ∧ Q (.bl (decide (x = .non))) H) (.dat d) (.dat .none) ms (.dat (.bool (isN d))) := fun as H0 H x y s h1 h2 Q k => by
  unfold RsOk R at h2
  refine ⟨h2, ?_⟩
  rw [R.isN (show R S.K as H x d from h1)]
  exact k _ H .refl s rBool
theorem op2_notN : Op2 S (fun x y H Q => y = .non ∧ Q (.bl (!decide (x = .non))) H) (.dat d) (.dat .none) ms (.dat (.bool (!isN d))) := fun as H0 H x y s h1 h2 Q k => by
  unfold RsOk R at h2
  refine ⟨h2, ?_⟩
  rw [R.isN (show R S.K as H x d from h1)]
  exact k _ H .refl s rBool
theorem ee_isN (hm : behindInMarks .Is b = false) (ha : EE S a ρ ms (.dat d) ms1) (hb : EE S b ρ ms1 (.dat .none) ms2) : EE S (.Compare a [.Is] [b] pos) ρ ms (.dat (.bool (isN d))) ms2 := ee_cmp (fun X hX => op_isN) hm op2_isN ha hb
theorem et_isN (hm : behindInMarks .Is b = false) (ha : EE S a ρ ms (.dat d) ms1) (hb : EE S b ρ ms1 (.dat .none) ms2) : ET S (.Compare a [.Is] [b] pos) ρ ms (isN d) ms2 := et_cmp (fun X hX => op_isN) hm op2_isN ha hb
theorem ee_notN (hm : behindInMarks .IsNot b = false) (ha : EE S a ρ ms (.dat d) ms1) (hb : EE S b ρ ms1 (.dat .none) ms2) : EE S (.Compare a [.IsNot] [b] pos) ρ ms (.dat (.bool (!isN d))) ms2 := ee_cmp (fun X hX => op_notN) hm op2_notN ha hb
theorem et_notN (hm : behindInMarks .IsNot b = false) (ha : EE S a ρ ms (.dat d) ms1) (hb : EE S b ρ ms1 (.dat .none) ms2) : ET S (.Compare a [.IsNot] [b] pos) ρ ms (!isN d) ms2 := et_cmp (fun X hX => op_notN) hm op2_notN ha hb
theorem op2_catT (hz : ds1.length + ds2.length ≤ sizeLine) : Op2 S (rCatA S.K) (.dat (.tuple ds1)) (.dat (.tuple ds2)) ms (.dat (.tuple (ds1 ++ ds2))) := fun as H0 H x y s q1 q2 Q k => by
  have q1' := q1
  have q2' := q2
  obtain ⟨p1, xs, rfl, e1, ra1⟩ := q1.tup
  obtain ⟨p2, ys, rfl, e2, ra2⟩ := q2.tup
  refine ⟨p1, p2, xs, ys, rfl, rfl, e1, e2, by rw [ra1.length, ra2.length]; exact hz, fun h => ?_, fun h1 h2 => ?_, fun h1 h2 q hq => ?_⟩
  · have : ds1 = [] := List.length_eq_zero_iff.mp (by rw [← ra1.length, h]; rfl)
    subst this
    exact k _ H .refl s q2'
  · have : ds2 = [] := List.length_eq_zero_iff.mp (by rw [← ra2.length, h2]; rfl)
    subst this
    rw [List.append_nil] at k
    exact k _ H .refl s q1'
  · exact k _ _ (.new hq) (s.new hq) (.mkTup s hq (ra1.app ra2))
theorem ee_catT {α : Type} (f : α → D) {xs ys zs : List α} (ha : EE S a ρ ms (.dat (.tuple (xs.map f))) ms1) (hb : EE S b ρ ms1 (.dat (.tuple (ys.map f))) ms2) (h : catO xs ys = some zs) :
    EE S (.BinOp a .Add b pos) ρ ms (.dat (.tuple (zs.map f))) ms2 := by
  obtain ⟨hz, rfl⟩ := catO_some h
  rw [List.map_append]
  exact ee_op (fun X hX => by have h := op_catA (X := X); rw [hX.k] at h; exact h) (op2_catT (by rw [List.length_map, List.length_map]; exact hz)) ha hb
theorem ee_revL {kk : Nat} {p1 p2 p3 : Pos} (he : EE S e ρ ms r ms1) (hl : lres ms1 r = some ds) : EE S (.Subscript e (.Slice none none (some (.UnaryOp .USub (.Constant (.int 1) kk p1) p2)) p3) pos) ρ ms (.new ds.reverse) ms1 :=
  .of (te := tRevL S.K (cE S e)) (fun X hX => by have h := pe_revL (k := kk) (p1 := p1) (p2 := p2) (p3 := p3) (pos := pos) (pe_c hX e); rw [hX.k] at h; exact h) fun as σ H Q s en k => he as σ H _ s en fun v H1 k1 s1 q1 => by
    obtain ⟨p, xs, rfl, hq, ra⟩ := q1.lst s1 hl
    exact ⟨p, xs, rfl, hq, fun q hp => k _ _ (k1.trans (.new hp)) (s1.new hp) (.mkNew s1 k1.q hp ra.rev)⟩

/-! ### stars in displays -/
theorem rsa_dat {H0 : Hp} {us : List V} : ∀ {ds : List D} {vs : List V}, RA K as H vs ds → RsA K as H0 H us rs → RsA K as H0 H (vs ++ us) (ds.map .dat ++ rs)
  | [], _, h, q => by unfold RA at h; subst h; exact q
  | d :: ds, _, h, q => by
    unfold RA at h
    obtain ⟨v, r, rfl, h1, h2⟩ := h
    exact ⟨v, r ++ us, rfl, h1, rsa_dat h2 q⟩
theorem frzA_dat : ∀ {ds : List D} {ds2 : List D}, frzA rs = some ds2 → frzA (ds.map .dat ++ rs) = some (ds ++ ds2)
  | [], _, h => h
  | d :: ds, _, h => by
    show (some d).bind (fun d => (frzA (ds.map .dat ++ rs)).map (d :: ·)) = _
    rw [frzA_dat h]; rfl
theorem ea_starT (ds1 : List D) (he : EE S e ρ ms (.dat (.tuple ds1)) ms1) (hr : EA S es ρ ms1 rs ms2) (hs : ∀ env, starEach (.Starred e pos :: es) env = (true, eval e env) :: starEach es env := by intro _; rfl) : EA S (.Starred e pos :: es) ρ ms (ds1.map .dat ++ rs) ms2 :=
  .of (te := StX.tStar S.K (cE S e) (cA S es)) (fun X hX => by have h := StX.pa_star (p := pos) (pe_c hX e) (pa_c hX es) (hs _); rw [hX.k] at h; exact h) fun as σ H Q s en k => he as σ H _ s en fun v H1 k1 s1 q1 => by
    have q1' := q1
    obtain ⟨p, xs, rfl, hq, ra⟩ := q1.tup
    exact ⟨p, xs, rfl, .inl hq, hr as σ H1 _ s1 (en.kp k1) fun vs H2 k2 s2 q2 => k _ H2 (k1.trans k2) s2 (rsa_dat (ra.kp k2) (q2.back' s1 k1))⟩

/-! ### enumerate, zip -/
theorem RA.pair {v w : V} {d1 d2 : D} {p : Addr} (hp : H p = none) (hn : p ∉ as) (h1 : R K as H v d1) (h2 : R K as H w d2) : R K as (upd H p (.tup [v, w])) (.ref p) (.tuple [d1, d2]) := by
  unfold R
  exact ⟨p, [v, w], rfl, .inl ⟨hn, .inl upd_same⟩, RA.cons (h1.kq (.new hp)) (RA.cons (h2.kq (.new hp)) RA.nil)⟩
theorem it_enumL {α : Type} (f : α → D) {l : List α} {t : List (Int × α)} {elts : List Expr} {kk : Nat} {tpos : Pos} (hm : S.mg "enumerate" = none) (hg : S.sc.names.lookup (Str.ofString "enumerate") = some .globalImplicit) (ha : EA S [e] ρ ms [r] ms1) (hl : lres ms1 r = some (l.map f)) (h : some (enumL l) = some t)
    (hs : ∀ env, starEach [e] env = [(false, eval e env)] := by intro _; rfl) :
    IT S (.Tuple elts kk tpos) (.Call (.Name "enumerate" px) [e] [] pos) ρ ms (t.map fun p => .tuple [.int p.1, f p.2]) ms1 (fun m => lres m r = some (l.map f)) := fun as σ H Rr s en k =>
  ⟨iEnum S.K (cA S [e]), fun X hX => by have h := pi_enum (tpos := tpos) (elts := elts) (kk := kk) (p := px) (pos := pos) (hX.gl hg) (by rw [hX.mg]; exact hm) (pa_c hX [e]) (hs _); rw [hX.k] at h; exact h, ha as σ H _ s en fun vs H1 k1 s1 qa => by
    obtain ⟨v, rfl, q1⟩ := rs1 qa
    obtain ⟨a, xs, rfl, hq, ra⟩ := q1.lst s1 hl
    obtain rfl := someS h
    refine ⟨a, xs, rfl, hq, k _ H1 k1 s1 fun l' H1' hl' kq => ?_⟩
    have at_ : ∀ (H2 : Hp) (m : MS), Kp (S.T (as ++ l')) H1' H2 → SR S.K (as ++ l') H2 m → lres m r = some (l.map f) → ∃ xs, SqL S.K H2 a xs ∧ RA S.K (as ++ l') H2 xs (l.map f) := fun H2 m k2 s2 g2 => by
      obtain ⟨a', ys, e, h1, h2⟩ := ((q1.ext kq hl').kp k2).lst s2 g2
      cases e
      exact ⟨ys, h1, h2⟩
    have hlen : ((enumL l).map fun p => PyData.tuple [.int p.1, f p.2]).length = l.length := by rw [List.length_map]; exact enumG_len 0 l
    refine ⟨fun i H2 m hi k2 s2 g2 => ?_, fun H2 m k2 s2 g2 => ?_, fun i H2 m v H3 hi k2 s2 g2 hy => ?_⟩
    · obtain ⟨ys, h1, h2⟩ := at_ H2 m k2 s2 g2
      have hi' : i < (l.map f).length := by rw [List.length_map, ← hlen]; exact hi
      obtain ⟨v, e1, _⟩ := h2.get (List.getElem?_eq_getElem hi')
      exact ⟨ys, v, h1, e1⟩
    · obtain ⟨ys, h1, h2⟩ := at_ H2 m k2 s2 g2
      exact ⟨ys, h1, by rw [h2.length, hlen, List.length_map]; exact Nat.le_refl _⟩
    · obtain ⟨ys, h1, h2⟩ := at_ H2 m k2 s2 g2
      obtain ⟨T, x, rfl, hT, rfl, hy⟩ := hy
      obtain ⟨d, e1, e2⟩ := h2.get' (hy ys h1)
      rw [List.getElem?_map] at e1
      cases q : l[i]? with
      | none => rw [q] at e1; cases e1
      | some y =>
        rw [q] at e1
        cases (someS e1 : _ = d)
        refine ⟨.new hT, s2.new hT, .tuple [.int ((0 + i : Nat) : Int), f y], ?_, ?_⟩
        · rw [List.getElem?_map]
          unfold enumL
          rw [enumG_get, q]; rfl
        · exact RA.pair hT (s2.notin hT) (by unfold R; rw [Nat.zero_add]) e2⟩
theorem it_enumT {α : Type} (f : α → D) {l : List α} {t : List (Int × α)} {elts : List Expr} {kk : Nat} {tpos : Pos} (hm : S.mg "enumerate" = none) (hg : S.sc.names.lookup (Str.ofString "enumerate") = some .globalImplicit) (ha : EA S [e] ρ ms [.dat (.tuple (l.map f))] ms1) (h : some (enumL l) = some t)
    (hs : ∀ env, starEach [e] env = [(false, eval e env)] := by intro _; rfl) :
    IT S (.Tuple elts kk tpos) (.Call (.Name "enumerate" px) [e] [] pos) ρ ms (t.map fun p => .tuple [.int p.1, f p.2]) ms1 (fun _ => True) := fun as σ H Rr s en k =>
  ⟨iEnumT S.K (cA S [e]), fun X hX => by have h := pi_enumT (tpos := tpos) (elts := elts) (kk := kk) (p := px) (pos := pos) (hX.gl hg) (by rw [hX.mg]; exact hm) (pa_c hX [e]) (hs _); rw [hX.k] at h; exact h, ha as σ H _ s en fun vs H1 k1 s1 qa => by
    obtain ⟨v, rfl, q1⟩ := rs1 qa
    obtain ⟨a, xs, rfl, hq, ra⟩ := q1.tup
    obtain rfl := someS h
    refine ⟨a, xs, rfl, hq, k _ H1 k1 s1 fun l' H1' hl' kq => ?_⟩
    have at_ : ∀ (H2 : Hp), Kp (S.T (as ++ l')) H1' H2 → ∃ xs, SqT S.K H2 a xs ∧ RA S.K (as ++ l') H2 xs (l.map f) := fun H2 k2 => by
      obtain ⟨a', ys, e, h1, h2⟩ := ((q1.ext kq hl').kp k2).tup
      cases e
      exact ⟨ys, h1, h2⟩
    have hlen : ((enumL l).map fun p => PyData.tuple [.int p.1, f p.2]).length = l.length := by rw [List.length_map]; exact enumG_len 0 l
    refine ⟨fun i H2 m hi k2 s2 g2 => ?_, fun H2 m k2 s2 g2 => ?_, fun i H2 m v H3 hi k2 s2 g2 hy => ?_⟩
    · obtain ⟨ys, h1, h2⟩ := at_ H2 k2
      have hi' : i < (l.map f).length := by rw [List.length_map, ← hlen]; exact hi
      obtain ⟨v, e1, _⟩ := h2.get (List.getElem?_eq_getElem hi')
      exact ⟨ys, v, h1, e1⟩
    · obtain ⟨ys, h1, h2⟩ := at_ H2 k2
      exact ⟨ys, h1, by rw [h2.length, hlen, List.length_map]⟩
    · obtain ⟨ys, h1, h2⟩ := at_ H2 k2
      obtain ⟨T, x, rfl, hT, rfl, hy⟩ := hy
      obtain ⟨d, e1, e2⟩ := h2.get' (hy ys h1)
      rw [List.getElem?_map] at e1
      cases q : l[i]? with
      | none => rw [q] at e1; cases e1
      | some y =>
        rw [q] at e1
        cases (someS e1 : _ = d)
        refine ⟨.new hT, s2.new hT, .tuple [.int ((0 + i : Nat) : Int), f y], ?_, ?_⟩
        · rw [List.getElem?_map]
          unfold enumL
          rw [enumG_get, q]; rfl
        · exact RA.pair hT (s2.notin hT) (by unfold R; rw [Nat.zero_add]) e2⟩
theorem zipD_get {α β : Type} (f : α → D) (g : β → D) {l : List α} {m : List β} {i : Nat} {d1 d2 : D} (h1 : (l.map f)[i]? = some d1) (h2 : (m.map g)[i]? = some d2) : ((List.zip l m).map fun p => PyData.tuple [f p.1, g p.2])[i]? = some (.tuple [d1, d2]) := by
  rw [List.getElem?_map] at h1 h2
  cases q1 : l[i]? with
  | none => rw [q1] at h1; cases h1
  | some x =>
    cases q2 : m[i]? with
    | none => rw [q2] at h2; cases h2
    | some y =>
      rw [q1] at h1; rw [q2] at h2
      cases (someS h1 : _ = d1)
      cases (someS h2 : _ = d2)
      rw [List.getElem?_map, List.getElem?_zip_eq_some (z := (x, y)) |>.mpr ⟨q1, q2⟩]
      rfl
theorem it_zipTT {α β : Type} (f : α → D) (g : β → D) {l1 : List α} {l2 : List β} {t : List (α × β)} {elts : List Expr} {kk : Nat} {tpos : Pos} (hm : S.mg "zip" = none) (hg : S.sc.names.lookup (Str.ofString "zip") = some .globalImplicit) (ha : EA S [a, b] ρ ms [.dat (.tuple (l1.map f)), .dat (.tuple (l2.map g))] ms1) (h : some (List.zip l1 l2) = some t)
    (hs : ∀ env, starEach [a, b] env = (false, eval a env) :: starEach [b] env := by intro _; rfl) (hpl : ∀ pos env, (backTo pos (starEach [b] env)).any (·.1) = false := by intro _ _; rfl) :
    IT S (.Tuple elts kk tpos) (.Call (.Name "zip" px) [a, b] [] pos) ρ ms (t.map fun p => .tuple [f p.1, g p.2]) ms1 (fun _ => True) := fun as σ H Rr s en k =>
  ⟨RZ.iZipA S.K (cA S [a, b]), fun X hX => by have h := RZ.pi_zipA (tpos := tpos) (elts := elts) (kk := kk) (p := px) (pos := pos) (hX.gl hg) (by rw [hX.mg]; exact hm) (pa_c hX [a, b]) (hs _) (hpl _ _); rw [hX.k] at h; exact h, ha as σ H _ s en fun vs H1 k1 s1 qa => by
    obtain ⟨v, u, rfl, q1, q2⟩ := rs2 qa
    obtain ⟨a, xs, rfl, hq, ra⟩ := q1.tup
    obtain ⟨b, ys, rfl, hq2, ra2⟩ := q2.tup
    obtain rfl := someS h
    refine ⟨a, b, xs, ys, rfl, .inr ⟨hq, hq2, k _ H1 k1 s1 fun l' H1' hl' kq => ?_⟩⟩
    have at1 : ∀ (H2 : Hp), Kp (S.T (as ++ l')) H1' H2 → ∃ xs, SqT S.K H2 a xs ∧ RA S.K (as ++ l') H2 xs (l1.map f) := fun H2 k2 => by
      obtain ⟨a', ys, e, h1, h2⟩ := ((q1.ext kq hl').kp k2).tup
      cases e
      exact ⟨ys, h1, h2⟩
    have at2 : ∀ (H2 : Hp), Kp (S.T (as ++ l')) H1' H2 → ∃ xs, SqT S.K H2 b xs ∧ RA S.K (as ++ l') H2 xs (l2.map g) := fun H2 k2 => by
      obtain ⟨a', ys, e, h1, h2⟩ := ((q2.ext kq hl').kp k2).tup
      cases e
      exact ⟨ys, h1, h2⟩
    have hlen : ((List.zip l1 l2).map fun p => PyData.tuple [f p.1, g p.2]).length = min l1.length l2.length := by rw [List.length_map, List.length_zip]
    refine ⟨fun i H2 m hi k2 s2 g2 => ?_, fun H2 m k2 s2 g2 => ?_, fun i H2 m v H3 hi k2 s2 g2 hy => ?_⟩
    · obtain ⟨xs, h1, h2⟩ := at1 H2 k2
      obtain ⟨ys, h3, h4⟩ := at2 H2 k2
      rw [hlen] at hi
      obtain ⟨v, e1, _⟩ := h2.get (List.getElem?_eq_getElem (show i < (l1.map f).length by rw [List.length_map]; omega))
      obtain ⟨w, e2, _⟩ := h4.get (List.getElem?_eq_getElem (show i < (l2.map g).length by rw [List.length_map]; omega))
      exact ⟨xs, ys, v, w, h1, h3, e1, e2⟩
    · obtain ⟨xs, h1, h2⟩ := at1 H2 k2
      obtain ⟨ys, h3, h4⟩ := at2 H2 k2
      have n1 := h2.length
      have n2 := h4.length
      rw [List.length_map] at n1 n2
      exact ⟨xs, ys, h1, h3, by rw [hlen]; omega⟩
    · obtain ⟨xs, h1, h2⟩ := at1 H2 k2
      obtain ⟨ys, h3, h4⟩ := at2 H2 k2
      obtain ⟨T, x, y, rfl, hT, rfl, hy1, hy2⟩ := hy
      obtain ⟨d, e1, e2⟩ := h2.get' (hy1 xs h1)
      obtain ⟨d', e3, e4⟩ := h4.get' (hy2 ys h3)
      exact ⟨.new hT, s2.new hT, .tuple [d, d'], zipD_get f g e1 e3, RA.pair hT (s2.notin hT) e2 e4⟩⟩
theorem it_zipLT {α β : Type} (f : α → D) (g : β → D) {l1 : List α} {l2 : List β} {t : List (α × β)} {elts : List Expr} {kk : Nat} {tpos : Pos} (hm : S.mg "zip" = none) (hg : S.sc.names.lookup (Str.ofString "zip") = some .globalImplicit) (ha : EA S [a, b] ρ ms [r, .dat (.tuple (l2.map g))] ms1) (hl : lres ms1 r = some (l1.map f)) (h : some (List.zip l1 l2) = some t)
    (hs : ∀ env, starEach [a, b] env = (false, eval a env) :: starEach [b] env := by intro _; rfl) (hpl : ∀ pos env, (backTo pos (starEach [b] env)).any (·.1) = false := by intro _ _; rfl) :
    IT S (.Tuple elts kk tpos) (.Call (.Name "zip" px) [a, b] [] pos) ρ ms (t.map fun p => .tuple [f p.1, g p.2]) ms1 (fun m => lres m r = some (l1.map f)) := fun as σ H Rr s en k =>
  ⟨iZipM S.K (cA S [a, b]), fun X hX => by have h := pi_zipM (tpos := tpos) (elts := elts) (kk := kk) (p := px) (pos := pos) (hX.gl hg) (by rw [hX.mg]; exact hm) (pa_c hX [a, b]) (hs _) (hpl _ _); rw [hX.k] at h; exact h, ha as σ H _ s en fun vs H1 k1 s1 qa => by
    obtain ⟨v, u, rfl, q1, q2⟩ := rs2 qa
    obtain ⟨a, xs, rfl, hq, ra⟩ := q1.lst s1 hl
    obtain ⟨b, ys, rfl, hq2, ra2⟩ := q2.tup
    obtain rfl := someS h
    refine ⟨a, b, xs, ys, rfl, hq, hq2, k _ H1 k1 s1 fun l' H1' hl' kq => ?_⟩
    have at1 : ∀ (H2 : Hp) (m : MS), Kp (S.T (as ++ l')) H1' H2 → SR S.K (as ++ l') H2 m → lres m r = some (l1.map f) → ∃ xs, SqL S.K H2 a xs ∧ RA S.K (as ++ l') H2 xs (l1.map f) := fun H2 m k2 s2 g2 => by
      obtain ⟨a', ys, e, h1, h2⟩ := ((q1.ext kq hl').kp k2).lst s2 g2
      cases e
      exact ⟨ys, h1, h2⟩
    have at2 : ∀ (H2 : Hp), Kp (S.T (as ++ l')) H1' H2 → ∃ xs, SqT S.K H2 b xs ∧ RA S.K (as ++ l') H2 xs (l2.map g) := fun H2 k2 => by
      obtain ⟨a', ys, e, h1, h2⟩ := ((q2.ext kq hl').kp k2).tup
      cases e
      exact ⟨ys, h1, h2⟩
    have hlen : ((List.zip l1 l2).map fun p => PyData.tuple [f p.1, g p.2]).length = min l1.length l2.length := by rw [List.length_map, List.length_zip]
    refine ⟨fun i H2 m hi k2 s2 g2 => ?_, fun H2 m k2 s2 g2 => ?_, fun i H2 m v H3 hi k2 s2 g2 hy => ?_⟩
    · obtain ⟨xs, h1, h2⟩ := at1 H2 m k2 s2 g2
      obtain ⟨ys, h3, h4⟩ := at2 H2 k2
      rw [hlen] at hi
      obtain ⟨v, e1, _⟩ := h2.get (List.getElem?_eq_getElem (show i < (l1.map f).length by rw [List.length_map]; omega))
      obtain ⟨w, e2, _⟩ := h4.get (List.getElem?_eq_getElem (show i < (l2.map g).length by rw [List.length_map]; omega))
      exact ⟨xs, ys, v, w, h1, h3, e1, e2⟩
    · obtain ⟨xs, h1, h2⟩ := at1 H2 m k2 s2 g2
      obtain ⟨ys, h3, h4⟩ := at2 H2 k2
      have n1 := h2.length
      have n2 := h4.length
      rw [List.length_map] at n1 n2
      exact ⟨xs, ys, h1, h3, by rw [hlen]; omega, by rw [hlen]; omega, by rw [hlen]; omega⟩
    · obtain ⟨xs, h1, h2⟩ := at1 H2 m k2 s2 g2
      obtain ⟨ys, h3, h4⟩ := at2 H2 k2
      obtain ⟨T, x, y, rfl, hT, rfl, hy1, hy2⟩ := hy
      obtain ⟨d, e1, e2⟩ := h2.get' (hy1 xs h1)
      obtain ⟨d', e3, e4⟩ := h4.get' (hy2 ys h3)
      exact ⟨.new hT, s2.new hT, .tuple [d, d'], zipD_get f g e1 e3, RA.pair hT (s2.notin hT) e2 e4⟩⟩
theorem it_zipLL {α β : Type} (f : α → D) (g : β → D) {l1 : List α} {l2 : List β} {t : List (α × β)} {elts : List Expr} {kk : Nat} {tpos : Pos} (hm : S.mg "zip" = none) (hg : S.sc.names.lookup (Str.ofString "zip") = some .globalImplicit) (ha : EA S [a, b] ρ ms [r1, r2] ms1) (hl1 : lres ms1 r1 = some (l1.map f)) (hl2 : lres ms1 r2 = some (l2.map g)) (h : some (List.zip l1 l2) = some t)
    (hs : ∀ env, starEach [a, b] env = (false, eval a env) :: starEach [b] env := by intro _; rfl) (hpl : ∀ pos env, (backTo pos (starEach [b] env)).any (·.1) = false := by intro _ _; rfl) :
    IT S (.Tuple elts kk tpos) (.Call (.Name "zip" px) [a, b] [] pos) ρ ms (t.map fun p => .tuple [f p.1, g p.2]) ms1 (fun m => lres m r1 = some (l1.map f) ∧ lres m r2 = some (l2.map g)) := fun as σ H Rr s en k =>
  ⟨iZip S.K (cA S [a, b]), fun X hX => by have h := pi_zip (tpos := tpos) (elts := elts) (kk := kk) (p := px) (pos := pos) (hX.gl hg) (by rw [hX.mg]; exact hm) (pa_c hX [a, b]) (hs _) (hpl _ _); rw [hX.k] at h; exact h, ha as σ H _ s en fun vs H1 k1 s1 qa => by
    obtain ⟨v, u, rfl, q1, q2⟩ := rs2 qa
    obtain ⟨a, xs, rfl, hq, ra⟩ := q1.lst s1 hl1
    obtain ⟨b, ys, rfl, hq2, ra2⟩ := q2.lst s1 hl2
    obtain rfl := someS h
    refine ⟨a, b, xs, ys, rfl, hq, hq2, k _ H1 k1 s1 fun l' H1' hl' kq => ?_⟩
    have at1 : ∀ (H2 : Hp) (m : MS), Kp (S.T (as ++ l')) H1' H2 → SR S.K (as ++ l') H2 m → lres m r1 = some (l1.map f) → ∃ xs, SqL S.K H2 a xs ∧ RA S.K (as ++ l') H2 xs (l1.map f) := fun H2 m k2 s2 g2 => by
      obtain ⟨a', ys, e, h1, h2⟩ := ((q1.ext kq hl').kp k2).lst s2 g2
      cases e
      exact ⟨ys, h1, h2⟩
    have at2 : ∀ (H2 : Hp) (m : MS), Kp (S.T (as ++ l')) H1' H2 → SR S.K (as ++ l') H2 m → lres m r2 = some (l2.map g) → ∃ xs, SqL S.K H2 b xs ∧ RA S.K (as ++ l') H2 xs (l2.map g) := fun H2 m k2 s2 g2 => by
      obtain ⟨a', ys, e, h1, h2⟩ := ((q2.ext kq hl').kp k2).lst s2 g2
      cases e
      exact ⟨ys, h1, h2⟩
    have hlen : ((List.zip l1 l2).map fun p => PyData.tuple [f p.1, g p.2]).length = min l1.length l2.length := by rw [List.length_map, List.length_zip]
    refine ⟨fun i H2 m hi k2 s2 g2 => ?_, fun H2 m k2 s2 g2 => ?_, fun i H2 m v H3 hi k2 s2 g2 hy => ?_⟩
    · obtain ⟨xs, h1, h2⟩ := at1 H2 m k2 s2 g2.1
      obtain ⟨ys, h3, h4⟩ := at2 H2 m k2 s2 g2.2
      rw [hlen] at hi
      obtain ⟨v, e1, _⟩ := h2.get (List.getElem?_eq_getElem (show i < (l1.map f).length by rw [List.length_map]; omega))
      obtain ⟨w, e2, _⟩ := h4.get (List.getElem?_eq_getElem (show i < (l2.map g).length by rw [List.length_map]; omega))
      exact ⟨xs, ys, v, w, h1, h3, e1, e2⟩
    · obtain ⟨xs, h1, h2⟩ := at1 H2 m k2 s2 g2.1
      obtain ⟨ys, h3, h4⟩ := at2 H2 m k2 s2 g2.2
      have n1 := h2.length
      have n2 := h4.length
      rw [List.length_map] at n1 n2
      exact ⟨xs, ys, h1, h3, by rw [hlen]; omega⟩
    · obtain ⟨xs, h1, h2⟩ := at1 H2 m k2 s2 g2.1
      obtain ⟨ys, h3, h4⟩ := at2 H2 m k2 s2 g2.2
      obtain ⟨T, x, y, rfl, hT, rfl, hy1, hy2⟩ := hy
      obtain ⟨d, e1, e2⟩ := h2.get' (hy1 xs h1)
      obtain ⟨d', e3, e4⟩ := h4.get' (hy2 ys h3)
      exact ⟨.new hT, s2.new hT, .tuple [d, d'], zipD_get f g e1 e3, RA.pair hT (s2.notin hT) e2 e4⟩⟩
theorem it_rngO {n : Int} {t : List Int} (hm : S.mg "range" = none) (hg : S.sc.names.lookup (Str.ofString "range") = some .globalImplicit) (hs : ∀ X : Cx, ∀ t : TA, PA X [a] t → Gl X "range" → X.mg "range" = none → PI X tg (.Call (.Name "range" px) [a] [] pos) (iRng1 t))
    (ha : EA S [a] ρ ms [.dat (.int n)] ms1) (h : rgO n = some t) : IT S tg (.Call (.Name "range" px) [a] [] pos) ρ ms (t.map .int) ms1 (fun _ => True) := by
  obtain ⟨c, e⟩ := rgO_some h
  rw [← e]
  exact it_rng1 hm hg hs ha c
theorem it_rng2O {m n : Int} {t : List Int} (hm : S.mg "range" = none) (hg : S.sc.names.lookup (Str.ofString "range") = some .globalImplicit) (hs : ∀ X : Cx, ∀ t : TA, PA X [a, b] t → Gl X "range" → X.mg "range" = none → PI X tg (.Call (.Name "range" px) [a, b] [] pos) (iRng2 t))
    (ha : EA S [a, b] ρ ms [.dat (.int m), .dat (.int n)] ms1) (h : rg2O m n = some t) : IT S tg (.Call (.Name "range" px) [a, b] [] pos) ρ ms (t.map .int) ms1 (fun _ => True) := by
  obtain ⟨c, e⟩ := rg2O_some h
  rw [← e]
  exact it_rng2 hm hg hs ha c
theorem it_D {G : MS → Prop} (h : IT S tg e ρ ms ds ms1 G) : IT S tg e ρ ms (ds.map fun d : D => d) ms1 G := by rw [List.map_id']; exact h
end
end Abs
namespace Abs
open PySem PySem.Spec PyProof.Rows L2
/-- the state behind a loop that is not left by a return -/
def loSt {τ : Type} : Lo τ Unit → Option τ
  | .go s => some s
  | .brk s => some s
  | .ret _ => none
theorem loSt_end {τ : Type} {o : Lo τ Unit} {s : τ} {env : τ → Env'} {mst : τ → MS} {rr : Unit → Rs} {mr : Unit → MS} (h : loSt o = some s) : loEnd env mst rr mr o = .nx (env s) (mst s) := by
  cases o with
  | go t => cases (someS h : t = s); rfl
  | brk t => cases (someS h : t = s); rfl
  | ret b => cases h
theorem cpow_ok {i j : Int} (h : (decide (0 ≤ j) && decide (j ≤ 1000000) && decide (i.natAbs < 2 ^ 64)) = true) : L2.CPow i j := by
  simp only [Bool.and_eq_true, decide_eq_true_eq] at h
  exact ⟨h.1.1, h.1.2, h.2⟩
theorem cmul_ok {i j : Int} (h : decide (i.natAbs.log2 + j.natAbs.log2 < 1000000) = true) : L2.CMulW i j := by
  simp only [decide_eq_true_eq] at h
  exact h
theorem isI {i j : Int} (h : i = j) : Rs.dat (.int i) = Rs.dat (.int j) := by rw [h]
theorem catO_ok {α : Type} {xs ys zs : List α} (n : Nat) (h : xs ++ ys = zs) (hl : xs.length + ys.length = n) (hn : n ≤ sizeLine) : catO xs ys = some zs := by
  unfold catO
  rw [if_pos (by rw [hl]; exact hn), h]
theorem sp_law {K : PySem.W.Frag} {F : Rel} {H : Hp} {a : Addr} {ns : List Int} {E : XK} (hS : SqL K H a (ns.map V.int)) (hF : F [.scr ns] [] (.dat (.bool true)) []) : spR K F [.ref a] H (fun v _ => v = .bl true) E :=
  ⟨[], [], [.scr ns], .dat (.bool true), [], ⟨List.nodup_nil, rfl, fun k a ds e => by simp at e⟩, ⟨.ref a, [], rfl, ⟨a, rfl, hS.imp (fun q => ⟨by simp, q⟩) id⟩, rfl⟩, hF, fun v H' _ _ q => q.bool⟩
/-- sorted of nothing -/
def sorted0 {α : Type} : List α → Option (List α)
  | [] => some []
  | _ :: _ => none
section
variable {S : Sx} {K : PySem.W.Frag} {as as1 as2 : List Addr} {H H1 H2 H' : Hp} {ms ms1 ms2 ms3 ms' mc tl : MS} {ρ ρ1 ρ2 ρ' : Env'} {σ : L2.St} {e a b c tg iter elt ox : Expr} {es ifs rest : List Expr} {r r' r1 r2 r3 : Rs} {rs : List Rs} {o : Out} {st : Stmt} {bd sts p q : List Stmt} {pos px ap : Pos} {t u : Bool} {i j k : Int} {x y z : Str} {d d1 d2 d3 : D} {ds ds1 ds2 : List D} {Φ : Out → Prop}
theorem ss_is (h : SS S st ρ ms o) {o' : Out} (q : o = o') : SS S st ρ ms o' := q ▸ h
theorem ee_sorted0 {α : Type} (f : α → D) {l l' : List α} (hm : S.mg "sorted" = none) (hg : S.sc.names.lookup (Str.ofString "sorted") = some .globalImplicit) (ha : EA S [e] ρ ms [r] ms1) (hl : lres ms1 r = some (l.map f)) (h : sorted0 l = some l')
    (he : ∀ env, starEach [e] env = (false, eval e env) :: starEach [] env := by intro _; rfl) : EE S (.Call (.Name "sorted" px) [e] [] pos) ρ ms (.new (l'.map f)) ms1 := by
  cases l with
  | cons _ _ => cases h
  | nil =>
    cases (someS h : [] = l')
    refine ee_cb (fun X hX => by have h := cr_sorted (X := X); rw [hX.k] at h; exact h) hm hg bt_sorted ?_ ha (he := he) (hpl := fun _ => rfl)
    intro as H0 H vs s q Q k
    obtain ⟨v, rfl, q1⟩ := rs1 q
    obtain ⟨a, xs, rfl, hq, ra⟩ := q1.lst s hl
    have hx : xs = [] := List.length_eq_zero_iff.mp ra.length
    subst hx
    refine ⟨a, [], rfl, hq, by decide, fun ns' p hp _ hn => ?_⟩
    obtain rfl := hp.eq_nil
    exact k _ _ (.new hn) (s.new hn) (.mkNew s .refl hn RA.nil)
/-- x.append(e), x a list of one's own -/
theorem ss_appP {α : Type} {pos2 : Pos} (f : α → D) {l l' : List α} {v : α} {j : Nat} {loc loc' : MS} (hb : ∀ X : Cx, ∀ (to : TE) (ta : TA), PE X ox to → PA X [e] ta → PE X (.Call (.Attribute ox "append" ap) [e] [] pos) (tBM X.K "list" rAppend to ta)) (hs : ∀ env, swapsWith (.Call (.Attribute ox "append" ap) [e] [] pos) none pos2.line env = pure false)
    (ho : EE S ox ρ (ms ++ loc) (.mu (ms.length + j)) (ms ++ loc)) (ha : EA S [e] ρ (ms ++ loc) [r] (ms ++ loc)) (hr : frz r = some (f v)) (hk : loc[j]? = some (l.map f)) (h : appO l v = some l') (hn : S.n0 ≤ ms.length) (hl : loc.set j (l'.map f) = loc') :
    SS S (.Expr (.Call (.Attribute ox "append" ap) [e] [] pos) pos2) ρ (ms ++ loc) (.nx ρ (ms ++ loc')) := by
  obtain ⟨hz, rfl⟩ := appO_some h
  have w := ee_append hb ho ha hr (by rw [lkP]; exact hk) (by rw [List.length_map]; exact hz) (.inl (by omega))
  refine ss_drop hs (ee_ms w ?_)
  rw [stP, ← hl, List.map_append]; rfl
theorem ss_appD {α : Type} {pos2 : Pos} {kk : Nat} {d0 d : Dice} (f : α → D) {l l' : List α} {v : α} {j : Nat} {loc loc' : MS} (hb : ∀ X : Cx, ∀ (to : TE) (ta : TA), PE X ox to → PA X [e] ta → PE X (.Call (.Attribute ox "append" ap) [e] [] pos) (tBM X.K "list" rAppend to ta)) (hs : ∀ env, swapsWith (.Call (.Attribute ox "append" ap) [e] [] pos) none pos2.line env = pure false)
    (ho : EE S ox ρ (MD mc kk d0 ++ (tl ++ loc)) (.mu (mc.length + tl.length + j)) (MD mc kk d0 ++ (tl ++ loc))) (ha : EA S [e] ρ (MD mc kk d0 ++ (tl ++ loc)) [r] (MD mc kk d ++ (tl ++ loc))) (hr : frz r = some (f v)) (hk : loc[j]? = some (l.map f)) (h : appO l v = some l') (hn : S.n0 ≤ mc.length + tl.length) (hl : loc.set j (l'.map f) = loc') :
    SS S (.Expr (.Call (.Attribute ox "append" ap) [e] [] pos) pos2) ρ (MD mc kk d0 ++ (tl ++ loc)) (.nx ρ (MD mc kk d ++ (tl ++ loc'))) := by
  obtain ⟨hz, rfl⟩ := appO_some h
  have w := ee_append hb ho ha hr (by rw [lkD]; exact hk) (by rw [List.length_map]; exact hz) (.inl (by omega))
  refine ss_drop hs (ee_ms w ?_)
  rw [stD, ← hl, List.map_append]; rfl
theorem ss_extP {α : Type} {pos2 : Pos} (f : α → D) {l l2 l' : List α} {j : Nat} {loc loc' : MS} (hb : ∀ X : Cx, ∀ (to : TE) (ta : TA), PE X ox to → PA X [e] ta → PE X (.Call (.Attribute ox "extend" ap) [e] [] pos) (tBM X.K "list" rExtend to ta)) (hs : ∀ env, swapsWith (.Call (.Attribute ox "extend" ap) [e] [] pos) none pos2.line env = pure false)
    (ho : EE S ox ρ (ms ++ loc) (.mu (ms.length + j)) (ms ++ loc)) (ha : EA S [e] ρ (ms ++ loc) [.new (l2.map f)] (ms ++ loc)) (hk : loc[j]? = some (l.map f)) (h : catO l l2 = some l') (hn : S.n0 ≤ ms.length) (hl : loc.set j (l'.map f) = loc') :
    SS S (.Expr (.Call (.Attribute ox "extend" ap) [e] [] pos) pos2) ρ (ms ++ loc) (.nx ρ (ms ++ loc')) := by
  obtain ⟨hz, rfl⟩ := catO_some h
  have w := ee_extend hb ho ha (by rw [lkP]; exact hk) (by rw [List.length_map, List.length_map]; exact hz) (.inl (by omega))
  refine ss_drop hs (ee_ms w ?_)
  rw [stP, ← hl, List.map_append]
/-- opening beside dice -/
theorem hm_dice {kk : Nat} {d d' : Dice} {n0 : Nat} {T : Nat → Bool} (hkm : kk < mc.length) (hn : n0 = mc.length + tl.length) (ht : ∀ j, T j = true → j = kk) : ∀ (j : Nat) (es : List D), (MD mc kk d' ++ tl)[j]? = some es → es.all flatD = true ∨ ((MD mc kk d ++ tl)[j]? = some es ∧ ¬ (n0 ≤ j ∨ T j = true)) := by
  intro j es h
  have hj := (List.getElem?_eq_some_iff.mp h).1
  rw [MD_lenN] at hj
  by_cases e : j = kk
  · subst e
    rw [MD_at hkm] at h
    cases (someS h : eDice d' = es)
    left; rfl
  · right
    refine ⟨?_, fun z => ?_⟩
    · rw [← h]
      by_cases hk : j < mc.length
      · rw [List.getElem?_append_left (by rw [MD_len]; exact hk), List.getElem?_append_left (by rw [MD_len]; exact hk)]
        unfold MD
        rw [List.getElem?_set_ne (Ne.symm e), List.getElem?_set_ne (Ne.symm e)]
      · rw [List.getElem?_append_right (by rw [MD_len]; omega), List.getElem?_append_right (by rw [MD_len]; omega), MD_len, MD_len]
    · rcases z with z | z
      · omega
      · exact e (ht j z)
/-- an assignment whose stores are looked at in this scope -/
theorem ss_asgS (hs : ∀ env, swapsWithSole [tg] e pos.line env = pure false) (hw : ∀ X, InS S X → swappedStores [tg] e X.env = pure none) (h1 : ∀ env, (assignEach [tg] env).map (·.2) = [assign tg env])
    (he : EE S e ρ ms r ms') (hr : frz r = some d) {sl : List Nat} (hg : EG S tg d ρ ρ' sl) : SS S (.Assign [tg] e pos) ρ ms (.nx ρ' ms') :=
  .of (fun X hX => ps_asg (pe_c hX e) (pg_c hX tg) (hs _) (hw X hX) (h1 _)) fun as σ H D s en k => he as σ H _ s en fun v H1 k1 s1 q1 => hg as σ H1 v _ (en.kp k1) (q1.frz hr) fun σ' en' _ => k as σ' H1 (.of k1) s1 en'
/-- x, y = a, b: b a new list that will be changed; the stores one behind the other -/
theorem ss_asg_do {py pt : Pos} {kt k2 pt2} (i j : Nat) (hN : S.N.Nodup) (hi : S.N[i]? = some x) (hj : S.N[j]? = some y) (hx : Loc S.sc x) (hy : Loc S.sc y) (hfx : S.cl x = true ∨ S.sc.names.lookup x = some .local) (hfy : S.cl y = true ∨ S.sc.names.lookup y = some .local)
    (hs : ∀ env, swapsWithSole [.Tuple [.Name x px, .Name y py] kt pt] (.Tuple [a, b] k2 pt2) pos.line env = pure false) (hw : ∀ X, InS S X → swappedStores [.Tuple [.Name x px, .Name y py] kt pt] (.Tuple [a, b] k2 pt2) X.env = pure none)
    (hpa : ∀ X : Cx, ∀ t u : TE, PE X a t → PE X b u → PA X [a, b] (tCons t (tCons u tNil)))
    (ha : EE S a ρ ms r1 ms1) (h1 : frz r1 = some d1) (hb : EEp S b ρ ms1 (.new ds)) (n : Nat) (hn : ms1.length = n) :
    SS S (.Assign [.Tuple [.Name x px, .Name y py] kt pt] (.Tuple [a, b] k2 pt2) pos) ρ ms (.nx ((ρ.set i (.dat d1)).set j (.mu n)) (ms1 ++ [ds])) :=
  .of (ts := tAsg (tTup (tCons (cE S a) (tCons (cE S b) tNil))) (gTup S.K 2 (gCons (gName i) (gCons (gName j) gNil))))
    (fun X hX => by
      have h := ps_asg (pos := pos) (pe_tup (x1 := k2) (pos := pt2) (hpa X _ _ (pe_c hX a) (pe_c hX b))) (pg_tup (k := kt) (pos := pt) (n := 2) hX.calm (pgs_cons (pg_name (pos := px) (by rw [hX.n]; exact hN) (by rw [hX.n]; exact hi) (hX.loc hx) (hX.hf hfx)) (pgs_cons (pg_name (pos := py) (by rw [hX.n]; exact hN) (by rw [hX.n]; exact hj) (hX.loc hy) (hX.hf hfy)) pgs_nil))) (hs _) (hw X hX)
      rw [hX.k] at h; exact h) fun as σ H En s en k =>
    ha as σ H _ s en fun v H1 k1 s1 q1 => hb as σ H1 _ s1 (en.kp k1) fun u H2 k2 s2 q2 => by
      refine ⟨by show 2 ≤ sizeLine; decide, fun q hq => ?_⟩
      obtain ⟨p, xs, rfl, hp0, np, hp, ra⟩ := q2
      have kn : Kp (fun _ => False) H2 (upd H2 q (.tup [v, .ref p])) := .new hq
      refine ⟨q, _, rfl, .inl (.inl upd_same), rfl, v, _, rfl, .ref p, _, rfl, rfl, ?_⟩
      have kk : Kp (fun _ => False) H1 (upd H2 q (.tup [v, .ref p])) := k2.trans kn
      obtain ⟨g1, g2, g3, g4⟩ := open_ok (ds := ds) s1 (en.kp k1) (kk.f) (s2.new hq) hp0 np (kn p _ (fun z => z) hp) (ra.keep kn) (s1.guard kk hp0) hn
      refine k (as ++ [p]) _ _ (Gr.trans s s1 (.of k1) g1) g2 ((g3.setD (R.chg (as := as) (fun b o _ e => kk b o (fun z => z) e) (fun q' z => ?_) _ _ (q1.frz h1))).setM g4)
      rcases List.mem_append.mp z with z | z
      · exact .inl z
      · rw [List.mem_singleton.mp z]; exact .inr hp0
theorem ee_star2 {α : Type} (f : α → D) {l1 l2 l' : List α} {p1 p2 : Pos} (h1 : EE S a ρ ms (.dat (.tuple (l1.map f))) ms1) (h2 : EE S b ρ ms1 (.dat (.tuple (l2.map f))) ms2) (h : catO l1 l2 = some l') :
    EE S (.List [.Starred a p1, .Starred b p2] pos) ρ ms (.new (l'.map f)) ms2 := by
  obtain ⟨hz, rfl⟩ := catO_some h
  refine ee_lst (ea_starT _ h1 (ea_starT _ h2 ea_nil)) ?_ (by rw [List.length_map, List.length_append]; exact hz)
  rw [frzA_dat (frzA_dat (rs := []) (ds2 := []) rfl), List.append_nil, List.map_append]
theorem MD_law {d : Dice} : MD (ms ++ [[]]) ms.length d ++ [] = ms ++ [eDice d] := by
  rw [List.append_nil]
  unfold MD
  rw [List.set_append_right _ _ (Nat.le_refl _), Nat.sub_self]; rfl
theorem law_hk : ms.length < (ms ++ [[]] : MS).length := by simp
theorem hm_law {n0 : Nat} {T : Nat → Bool} (hn : n0 = ms.length) (ht : ∀ j, T j = false) : ∀ (j : Nat) (es : List D), ms[j]? = some es → es.all flatD = true ∨ (ms[j]? = some es ∧ ¬ (n0 ≤ j ∨ T j = true)) := fun j es h => by
  have hj := (List.getElem?_eq_some_iff.mp h).1
  exact .inr ⟨h, fun z => by
    rcases z with z | z
    · omega
    · rw [ht j] at z; cases z⟩
theorem ex_loop (h : SS S st ρ ms o) (k : SS S st ρ ms o → Ex S (st :: sts) ρ ms Φ) : Ex S (st :: sts) ρ ms Φ := k h
end
end Abs
namespace Abs
open PySem PySem.Spec PyProof.Rows L2
def topS (i : Nat) : Stmt := PySem.Challenge.pw_trueroom_k12_whole_floors_counted_from_b.main.body.getD i (.Pass ⟨0, 0, 0, 0⟩)
structure Txt (K : PySem.W.Frag) (mg : Str → Option Value) : Prop where
  abs : mg "abs" = none
  all : mg "all" = none
  bool : mg "bool" = none
  c_GREAT : ∃ t, mg "GREAT" = some (.int (999999999999999999999999999999999999999999999999999999999999) t)
  c_MOST_CORNERS : ∃ t, mg "MOST_CORNERS" = some (.int (60) t)
  c_MOST_TIMES : ∃ t, mg "MOST_TIMES" = some (.int (1000000000) t)
  enumerate : mg "enumerate" = none
  int : mg "int" = none
  isinstance : mg "isinstance" = none
  len : mg "len" = none
  max : mg "max" = none
  min : mg "min" = none
  range : mg "range" = none
  sorted : mg "sorted" = none
  sum : mg "sum" = none
  tuple : mg "tuple" = none
  zip : mg "zip" = none
def e_v2ii : (Int × Int) → D := fun p => .list [(.int p.1), (.int p.2)]
def e_v4iiii : (Int × Int × Int × Int) → D := fun p => .list [(.int p.1), (.int p.2.1), (.int p.2.2.1), (.int p.2.2.2)]
def e_v6iiiiii : (Int × Int × Int × Int × Int × Int) → D := fun p => .list [(.int p.1), (.int p.2.1), (.int p.2.2.1), (.int p.2.2.2.1), (.int p.2.2.2.2.1), (.int p.2.2.2.2.2)]
def e_t3iii : (Int × Int × Int) → D := fun p => .tuple [(.int p.1), (.int p.2.1), (.int p.2.2)]
def e_ut3iii : (List (Int × Int × Int)) → D := fun l => .tuple (l.map e_t3iii)
def e_t2it3iii : (Int × (Int × Int × Int)) → D := fun p => .tuple [(.int p.1), (e_t3iii p.2)]
def e_v3iii : (Int × Int × Int) → D := fun p => .list [(.int p.1), (.int p.2.1), (.int p.2.2)]
def e_t2ii : (Int × Int) → D := fun p => .tuple [(.int p.1), (.int p.2)]
def e_t2t3iiit3iii : ((Int × Int × Int) × (Int × Int × Int)) → D := fun p => .tuple [(e_t3iii p.1), (e_t3iii p.2)]
def e_t1t3iii : (Int × Int × Int) → D := fun p => .tuple [(e_t3iii p)]
def e_t0 : Unit → D := fun p => .tuple []
def e_t1d : D → D := fun p => .tuple [p]
def e_lt2t3iiit3iii : (List ((Int × Int × Int) × (Int × Int × Int))) → D := fun l => .list (l.map e_t2t3iiit3iii)
def e_li : (List Int) → D := fun l => .list (l.map PyData.int)
def e_lt2ii : (List (Int × Int)) → D := fun l => .list (l.map e_t2ii)
def e_v0 : Unit → D := fun p => .list []
def e_uut3iii : (List (List (Int × Int × Int))) → D := fun l => .tuple (l.map e_ut3iii)
def e_v5iiiii : (Int × Int × Int × Int × Int) → D := fun p => .list [(.int p.1), (.int p.2.1), (.int p.2.2.1), (.int p.2.2.2.1), (.int p.2.2.2.2)]
section
variable {P : Program} {w : World} {K : PySem.W.Frag} {mg : Str → Option Value} {base : Heap}
def s__law_dice : Stmt := topS 61
def nm__law_dice : List Str := ["script", "spot", "cell", "great"]
theorem sc__law_dice : FnScope nm__law_dice ["script", "spot"] (defScope s__law_dice) := ⟨rfl, rfl, rfl, by decide +kernel, rfl, by decide +kernel, by decide +kernel⟩
def m__law_dice (v_script : List Int) (v_spot : Int) : Option ((Int × Int)) := (if (decide (v_spot < (v_script.length : Int))) = true then ((ixO (v_script : List Int) v_spot).bind fun t1 => some t1) else ((mulO 131 v_spot).bind fun t2 => some (t2 + 71))).bind fun t3 => (modO (max 0 ((t3.natAbs : Int) - 10000000000000000)) 100000000000000000000000000000000000000000000000000000000000000000000000000000000000000000000000000000000000000).bind fun t6 => (modO (t3.natAbs : Int) 18446744073709551557).bind fun t7 => (mulO 7919 v_spot).bind fun t8 => (mulO 31 (if (decide (t3 < 0)) then (1 : Int) else 0)).bind fun t9 => (modO ((t7 + t8) + t9) 18446744073709551616).bind fun t10 => some (t6, t10)
def R__law_dice : Rel := fun rs ms r ms2 => ∃ (v_script : List Int) (v_spot : Int), rs = [.scr v_script, .dat (.int v_spot)] ∧ ms2 = ms ∧ ∃ v : (Int × Int), m__law_dice v_script v_spot = some v ∧ r = .new [(.int v.1), (.int v.2)]
theorem kn__law_dice (T : Txt K mg) {f : Addr} {fd : FuncData} (Fu : Fun K "_law_dice" "_law_dice" s__law_dice f fd) (hmf : mg "_law_dice" = some (.ref f))  : Kn P w K mg base 1 "_law_dice" R__law_dice := by
  have hb := Fu.binds (ps := ["script", "spot"]) fun _ _ _ _ _ _ us hl => match us, hl with | [_, _], _ => rfl
  refine kn_of (kk := 0) Fu sc__law_dice hb hmf rfl (by decide) (by rintro rs ms0 r ms ⟨v_script, v_spot, rfl, rfl, v, h, rfl⟩; exact ⟨rfl, rfl⟩) ?_
  rintro rs ms0 r ms ⟨v_script, v_spot, rfl, rfl, v, h, rfl⟩
  show Ex _ _ [.scr v_script, .dat (.int v_spot), .un, .un] ms (fun o => Fin ms o (.new [(.int v.1), (.int v.2)]))
  unfold m__law_dice at h
  show Ex _ _ [.scr v_script, .dat (.int v_spot), .un, .un] _ _
  obtain ⟨t3, ht3, h⟩ := bindS h
  refine ex_cons (ss_set 2 sc__law_dice.nd rfl (Or.inl rfl) (.inl rfl) (fun _ => rfl) (ee_ifO PyData.int (et_lt (nobehind _ (by decide) (by decide)) (ee_var 1 rfl (Or.inl rfl) rfl) (ee_is (ee_len T.len (by rfl) (ea_cons (fun _ _ _ p q => pa_cons p q) (ee_scr 0 rfl (Or.inl rfl) rfl) ea_nil) rfl) (by rw [List.length_map]))) ht3 (fun _ g4 => by obtain ⟨t1, ht1, g4⟩ := bindS g4; obtain rfl := someS g4; exact (ee_intI T.int (by rfl) (ea_cons (fun _ _ _ p q => pa_cons p q) (ee_ixL (fun X _ _ p q => pe_ix ix_list p q (fun _ _ => rfl)) (ee_scr 0 rfl (Or.inl rfl) rfl) (ee_var 1 rfl (Or.inl rfl) rfl) rfl (atI_map PyData.int ht1)) ea_nil))) (fun _ g5 => by obtain ⟨t2, ht2, g5⟩ := bindS g5; obtain rfl := someS g5; exact (ee_add (ee_mulO ee_int (ee_var 1 rfl (Or.inl rfl) rfl) ht2) ee_int))) rfl) ?_
  show Ex _ _ [.scr v_script, .dat (.int v_spot), .dat (.int t3), .un] _ _
  obtain ⟨t6, ht6, h⟩ := bindS h
  refine ex_cons (ss_set 3 sc__law_dice.nd rfl (Or.inl rfl) (.inl rfl) (fun _ => rfl) (ee_modO (ee_max2 T.max (by rfl) (ea_cons (fun _ _ _ p q => pa_cons p q) ee_int (ea_cons (fun _ _ _ p q => pa_cons p q) (ee_sub (ee_abs T.abs (by rfl) (ea_cons (fun _ _ _ p q => pa_cons p q) (ee_var 2 rfl (Or.inl rfl) rfl) ea_nil)) (ee_powC (i := 10) (j := 16) (k := 10000000000000000) ee_int ee_int (cpow_ok rfl) (by decide +kernel))) ea_nil))) (ee_mulC (i := 10000000000000000000000000000000000000000000000000000000) (j := 10000000000000000000000000000000000000000000000000000000) (k := 100000000000000000000000000000000000000000000000000000000000000000000000000000000000000000000000000000000000000) (ee_powC (i := 10) (j := 55) (k := 10000000000000000000000000000000000000000000000000000000) ee_int ee_int (cpow_ok rfl) (by decide +kernel)) (ee_powC (i := 10) (j := 55) (k := 10000000000000000000000000000000000000000000000000000000) ee_int ee_int (cpow_ok rfl) (by decide +kernel)) (cmul_ok rfl) (by decide +kernel)) ht6) rfl) ?_
  show Ex _ _ [.scr v_script, .dat (.int v_spot), .dat (.int t3), .dat (.int t6)] _ _
  obtain ⟨t7, ht7, h⟩ := bindS h
  obtain ⟨t8, ht8, h⟩ := bindS h
  obtain ⟨t9, ht9, h⟩ := bindS h
  obtain ⟨t10, ht10, h⟩ := bindS h
  obtain rfl := someS h
  exact ex_out (ss_ret (ee_lst (ea_cons (fun _ _ _ p q => pa_cons p q) (ee_var 3 rfl (Or.inl rfl) rfl) (ea_cons (fun _ _ _ p q => pa_cons p q) (ee_modO (ee_add (ee_add (ee_modO (ee_abs T.abs (by rfl) (ea_cons (fun _ _ _ p q => pa_cons p q) (ee_var 2 rfl (Or.inl rfl) rfl) ea_nil)) ee_int ht7) (ee_mulO ee_int (ee_var 1 rfl (Or.inl rfl) rfl) ht8)) (ee_mulO ee_int (ee_intB T.int (by rfl) (ea_cons (fun _ _ _ p q => pa_cons p q) (ee_lt (nobehind _ (by decide) (by decide)) (ee_var 2 rfl (Or.inl rfl) rfl) ee_int) ea_nil)) ht9)) ee_int ht10) ea_nil)) rfl (lnOk 2 rfl (by decide)))) rfl fin_new

def s__law_roll : Stmt := topS 62
def nm__law_roll : List Str := ["dice", "total", "found"]
theorem sc__law_roll : FnScope nm__law_roll ["dice", "total"] (defScope s__law_roll) := ⟨rfl, rfl, rfl, by decide +kernel, rfl, by decide +kernel, by decide +kernel⟩
def m__law_roll (d : Dice) (total : Int) : Option (Int × Dice) := if decide (0 < d.1) = true then ((modO d.1 total).bind fun f => (divO d.1 total).bind fun g => some (f, (g, d.2)))
  else ((mulO d.2 6364136223846793005).bind fun t1 => (modO (t1 + 1442695040888963407) 18446744073709551616).bind fun t2 => (divO t2 4294967296).bind fun t3 => (modO t3 total).bind fun t4 => some (t4, (d.1, t2)))
def A__law_roll : List Rs → Dice → Rs → Dice → Prop := fun args d r d2 => ∃ v_total : Int, args = [.dat (.int v_total)] ∧ ∃ v : Int × Dice, m__law_roll d v_total = some v ∧ r = .dat (.int v.1) ∧ d2 = v.2
abbrev R__law_roll : Rel := RelD 2 A__law_roll
theorem kn__law_roll (T : Txt K mg) {f : Addr} {fd : FuncData} (Fu : Fun K "_law_roll" "_law_roll" s__law_roll f fd) (hmf : mg "_law_roll" = some (.ref f)) : Kn P w K mg base 1 "_law_roll" R__law_roll := by
  have hb := Fu.binds (ps := ["dice", "total"]) fun _ _ _ _ _ _ us hl => match us, hl with | [_, _], _ => rfl
  refine kn_of (kk := 0) Fu sc__law_roll hb hmf rfl (by decide) relD_len ?_
  rintro rs ms r ms' ⟨mc, k, d, d', tl, args, hkm, rfl, hnn, rfl, rfl, v_total, rfl, v, h, rfl, rfl⟩
  show Ex _ _ [.mu k, .dat (.int v_total), .un] (MD mc k d ++ tl) (fun o => Fin (MD mc k v.2 ++ tl) o (.dat (.int v.1)))
  unfold m__law_roll at h
  have hl : lres (MD mc k d ++ tl) (.mu k) = some (eDice d) := by rw [lresMu]; exact MD_at hkm
  rcases boolCases (decide (0 < d.1)) with hc | hc
  · have h := iteT' hc h
    obtain ⟨f, hf, h⟩ := bindS h
    obtain ⟨g, hg, h⟩ := bindS h
    refine ex_ifT (et_gt (nobehind _ (by decide) (by decide)) (ee_ixL (fun X _ _ p q => pe_ix ix_list p q (fun _ _ => rfl)) (ee_mu 0 rfl (Or.inl rfl) rfl) ee_int hl (by rfl)) ee_int) hc ?_
    refine ex_cons (ss_set 2 sc__law_roll.nd rfl (Or.inl rfl) (.inl rfl) (fun _ => rfl) (ee_intI T.int (by rfl) (ea_cons (fun _ _ _ p q => pa_cons p q) (ee_modO (ee_ixL (fun X _ _ p q => pe_ix ix_list p q (fun _ _ => rfl)) (ee_mu 0 rfl (Or.inl rfl) rfl) ee_int hl (by rfl)) (ee_var 1 rfl (Or.inl rfl) rfl) hf) ea_nil)) rfl) ?_
    refine ex_cons (ss_ms (ss_setItem (fun _ => rfl) (fun _ => rfl) (fun _ => rfl) (fun X _ _ p q => pg_sub p q set_list) (ee_divO (ee_ixL (fun X _ _ p q => pe_ix ix_list p q (fun _ _ => rfl)) (ee_mu 0 rfl (Or.inl rfl) rfl) ee_int hl (by rfl)) (ee_var 1 rfl (Or.inl rfl) rfl) hg) rfl (ee_mu 0 rfl (Or.inl rfl) rfl) ee_int (MD_at hkm) (by rfl) (.inr tch0)) (MD_put (d' := (g, d.2)) hkm)) ?_
    obtain rfl := someS h
    exact ex_out (ss_ret (ee_var 2 rfl (Or.inl rfl) rfl)) rfl fin_dat
  · have h := iteF' hc h
    obtain ⟨t1, h1, h⟩ := bindS h
    obtain ⟨t2, h2, h⟩ := bindS h
    obtain ⟨t3, h3, h⟩ := bindS h
    obtain ⟨t4, h4, h⟩ := bindS h
    refine ex_ifF0 (et_gt (nobehind _ (by decide) (by decide)) (ee_ixL (fun X _ _ p q => pe_ix ix_list p q (fun _ _ => rfl)) (ee_mu 0 rfl (Or.inl rfl) rfl) ee_int hl (by rfl)) ee_int) hc ?_
    refine ex_cons (ss_ms (ss_setItem (fun _ => rfl) (fun _ => rfl) (fun _ => rfl) (fun X _ _ p q => pg_sub p q set_list) (ee_modO (ee_add (ee_mulO (ee_ixL (fun X _ _ p q => pe_ix ix_list p q (fun _ _ => rfl)) (ee_mu 0 rfl (Or.inl rfl) rfl) ee_int hl (by rfl)) ee_int h1) ee_int) ee_int h2) rfl (ee_mu 0 rfl (Or.inl rfl) rfl) ee_int (MD_at hkm) (by rfl) (.inr tch0)) (MD_put (d' := (d.1, t2)) hkm)) ?_
    have hl2 : lres (MD mc k (d.1, t2) ++ tl) (.mu k) = some (eDice (d.1, t2)) := by rw [lresMu]; exact MD_at hkm
    obtain rfl := someS h
    exact ex_out (ss_ret (ee_modO (ee_intI T.int (by rfl) (ea_cons (fun _ _ _ p q => pa_cons p q) (ee_divO (ee_ixL (fun X _ _ p q => pe_ix ix_list p q (fun _ _ => rfl)) (ee_mu 0 rfl (Or.inl rfl) rfl) ee_int hl2 (by rfl)) ee_int h3) ea_nil)) (ee_var 1 rfl (Or.inl rfl) rfl) h4)) rfl fin_dat

def s__law_great : Stmt := topS 65
def nm__law_great : List Str := ["dice", "most", "found", "turn"]
theorem sc__law_great : FnScope nm__law_great ["dice", "most"] (defScope s__law_great) := ⟨rfl, rfl, rfl, by decide +kernel, rfl, by decide +kernel, by decide +kernel⟩
def m__law_great (d : Dice) (v_most : Int) : Option (Int × Dice) := (rgO 5).bind fun t1 => (forS (fun (x3 : Int) (s2 : Int × Dice) => (mulO s2.1 1000000000).bind fun t6 => (m__law_roll s2.2 1000000000).bind fun p7 => some ((t6 + p7.1), p7.2)) t1 (0, d)).bind fun s5 => (modO s5.1 v_most).bind fun t8 => some (t8, s5.2)
def A__law_great : List Rs → Dice → Rs → Dice → Prop := fun args d r d2 => ∃ (v_most : Int), args = [.dat (.int v_most)] ∧ ∃ v : Int × Dice, m__law_great d v_most = some v ∧ r = .dat (.int v.1) ∧ d2 = v.2
abbrev R__law_great : Rel := RelD 2 A__law_great
theorem kn__law_great (T : Txt K mg) {f : Addr} {fd : FuncData} (Fu : Fun K "_law_great" "_law_great" s__law_great f fd) (hmf : mg "_law_great" = some (.ref f)) (g__law_roll : Kn P w K mg base 1 "_law_roll" R__law_roll) : Kn P w K mg base 2 "_law_great" R__law_great := by
  have hb := Fu.binds (ps := ["dice", "most"]) fun _ _ _ _ _ _ us hl => match us, hl with | [_, _], _ => rfl
  refine kn_of (kk := 1) Fu sc__law_great hb hmf rfl (by decide) relD_len ?_
  rintro rs ms r ms' ⟨mc, k, d, d', tl, args, hkm, rfl, hnn, rfl, rfl, v_most, rfl, v, h, rfl, rfl⟩
  show Ex _ _ [.mu k, .dat (.int v_most), .un, .un] (MD mc k d ++ tl) (fun o => Fin (MD mc k v.2 ++ tl) o (.dat (.int v.1)))
  unfold m__law_great at h
  show Ex _ _ [.mu k, .dat (.int v_most), .un, .un] _ _
  refine ex_cons (ss_set 2 sc__law_great.nd rfl (Or.inl rfl) (.inl rfl) (fun _ => rfl) ee_int rfl) ?_
  show Ex _ _ [.mu k, .dat (.int v_most), .dat (.int 0), .un] _ _
  obtain ⟨t1, ht1, h⟩ := bindS h
  obtain ⟨s5, hs5, h⟩ := bindS h
  refine ex_cons (ss_forS (s0 := (0, d)) PyData.int _ _ (fun s2 : Int × Dice => [.mu k, .dat (.int v_most), .dat (.int s2.1), .un]) (fun s2 : Int × Dice => (MD mc k s2.2 ++ tl)) (mc.length + tl.length) (fun _ _ => rfl) (it_rngO T.range (by rfl) (fun X _ h1 h2 h3 => pi_range1 h2 h3 h1) (ea_cons (fun _ _ _ p q => pa_cons p q) ee_int ea_nil) ht1) (fun _ => trivial) (fun _ => MD_lenN) (.cons (.mu (by first | omega | (simp only [List.length_append, MD_len, List.length_cons, List.length_nil, Sx.blk]; omega))) (.cons .dat (.cons .dat (.cons .un .nil))))
    (fun x3 _ s2 s4 h => ⟨_, _, (eg_name 3 sc__law_great.nd rfl (Or.inl rfl) (.inl rfl)), by
      show Ex _ _ [.mu k, .dat (.int v_most), .dat (.int s2.1), .dat (.int x3)] _ _
      obtain ⟨t6, ht6, h⟩ := bindS h
      obtain ⟨p7, hp7, h⟩ := bindS h
      refine ex_cons (ss_set 2 sc__law_great.nd rfl (Or.inl rfl) (.inl rfl) (fun _ => rfl) (ee_add (ee_mulO (ee_var 2 rfl (Or.inl rfl) rfl) (ee_powC (i := 10) (j := 9) (k := 1000000000) ee_int ee_int (cpow_ok rfl) (by decide +kernel)) ht6) (ee_callD (r := .dat (.int p7.1)) (d' := p7.2) hkm g__law_roll (Nat.le_of_ble_eq_true rfl) (by rfl) rfl (ea_cons (fun _ _ _ p q => pa_cons p q) (ee_mu 0 rfl (Or.inl rfl) rfl) (ea_cons (fun _ _ _ p q => pa_cons p q) (ee_powC (i := 10) (j := 9) (k := 1000000000) ee_int ee_int (cpow_ok rfl) (by decide +kernel)) ea_nil)) ⟨1000000000, rfl, p7, hp7, rfl, rfl⟩ (mu_mu (.inr tch0) (mu_dat mu_nil)))) rfl) ?_
      obtain rfl := someS h
      exact ex_nil (turn_go (.cons (.mu (by first | omega | (simp only [List.length_append, MD_len, List.length_cons, List.length_nil, Sx.blk]; omega))) (.cons .dat (.cons .dat (.cons .un .nil)))))
    ⟩) hs5) ?_
  show Ex _ _ [.mu k, .dat (.int v_most), .dat (.int s5.1), .un] _ _
  obtain ⟨t8, ht8, h⟩ := bindS h
  obtain rfl := someS h
  exact ex_out (ss_ret (ee_modO (ee_var 2 rfl (Or.inl rfl) rfl) (ee_var 1 rfl (Or.inl rfl) rfl) ht8)) rfl fin_dat

def s__law_one_of : Stmt := topS 63
def nm__law_one_of : List Str := ["dice", "items"]
theorem sc__law_one_of : FnScope nm__law_one_of ["dice", "items"] (defScope s__law_one_of) := ⟨rfl, rfl, rfl, by decide +kernel, rfl, by decide +kernel, by decide +kernel⟩
def m__law_one_of {α : Type} (d : Dice) (l : List α) : Option (α × Dice) := (m__law_roll d (l.length : Int)).bind fun p => (ixO l p.1).bind fun t => some (t, p.2)
def A__law_one_of : List Rs → Dice → Rs → Dice → Prop := fun args d r d2 => ∃ l : List D, args = [.dat (.list l)] ∧ ∃ v : D × Dice, m__law_one_of d l = some v ∧ r = .dat v.1 ∧ d2 = v.2
abbrev R__law_one_of : Rel := RelD 2 A__law_one_of
theorem one_of_A {α : Type} (f : α → D) (l : List α) {d : Dice} {v : α × Dice} (h : m__law_one_of d l = some v) : A__law_one_of [.dat (.list (l.map f))] d (.dat (f v.1)) v.2 := by
  unfold m__law_one_of at h
  obtain ⟨p, h1, h⟩ := bindS h
  obtain ⟨t, h2, h⟩ := bindS h
  obtain rfl := someS h
  refine ⟨_, rfl, (f t, p.2), ?_, rfl, rfl⟩
  unfold m__law_one_of
  rw [List.length_map, h1, Option.bind_some]
  rw [show ixO (l.map f) p.1 = some (f t) from atI_map f h2]
  rfl
theorem kn__law_one_of (T : Txt K mg) {f : Addr} {fd : FuncData} (Fu : Fun K "_law_one_of" "_law_one_of" s__law_one_of f fd) (hmf : mg "_law_one_of" = some (.ref f)) (g__law_roll : Kn P w K mg base 1 "_law_roll" R__law_roll) : Kn P w K mg base 2 "_law_one_of" R__law_one_of := by
  have hb := Fu.binds (ps := ["dice", "items"]) fun _ _ _ _ _ _ us hl => match us, hl with | [_, _], _ => rfl
  refine kn_of (kk := 1) Fu sc__law_one_of hb hmf rfl (by decide) relD_len ?_
  rintro rs ms r ms' ⟨mc, k, d, d', tl, args, hkm, rfl, hnn, rfl, rfl, l, rfl, v, h, rfl, rfl⟩
  show Ex _ _ [.mu k, .dat (.list l)] (MD mc k d ++ tl) (fun o => Fin (MD mc k v.2 ++ tl) o (.dat v.1))
  unfold m__law_one_of at h
  obtain ⟨p, h1, h⟩ := bindS h
  obtain ⟨t, h2, h⟩ := bindS h
  obtain rfl := someS h
  exact ex_out (ss_ret (ee_ixL (fun X _ _ p q => pe_ix ix_list p q (fun _ _ => rfl)) (ee_var 1 rfl (Or.inl rfl) rfl) (ee_callD (r := .dat (.int p.1)) (d' := p.2) hkm g__law_roll (Nat.le_of_ble_eq_true rfl) (by rfl) rfl (ea_cons (fun _ _ _ p q => pa_cons p q) (ee_mu 0 rfl (Or.inl rfl) rfl) (ea_cons (fun _ _ _ p q => pa_cons p q) (ee_len T.len (by rfl) (ea_cons (fun _ _ _ p q => pa_cons p q) (ee_var 1 rfl (Or.inl rfl) rfl) ea_nil) rfl) ea_nil)) ⟨(l.length : Int), rfl, p, h1, rfl, rfl⟩ (mu_mu (.inr tch0) (mu_dat mu_nil))) rfl h2)) rfl fin_dat

def s__law_signed : Stmt := topS 66
def nm__law_signed : List Str := ["dice", "most"]
theorem sc__law_signed : FnScope nm__law_signed ["dice", "most"] (defScope s__law_signed) := ⟨rfl, rfl, rfl, by decide +kernel, rfl, by decide +kernel, by decide +kernel⟩
def m__law_signed (d : Dice) (v_most : Int) : Option (Int × Dice) := (m__law_great d v_most).bind fun p1 => (m__law_one_of p1.2 ([1, 1, (-1)] : List Int)).bind fun p2 => (mulO p1.1 p2.1).bind fun t3 => some (t3, p2.2)
def A__law_signed : List Rs → Dice → Rs → Dice → Prop := fun args d r d2 => ∃ (v_most : Int), args = [.dat (.int v_most)] ∧ ∃ v : Int × Dice, m__law_signed d v_most = some v ∧ r = .dat (.int v.1) ∧ d2 = v.2
abbrev R__law_signed : Rel := RelD 2 A__law_signed
theorem kn__law_signed (T : Txt K mg) {f : Addr} {fd : FuncData} (Fu : Fun K "_law_signed" "_law_signed" s__law_signed f fd) (hmf : mg "_law_signed" = some (.ref f)) (g__law_great : Kn P w K mg base 2 "_law_great" R__law_great) (g__law_one_of : Kn P w K mg base 2 "_law_one_of" R__law_one_of) : Kn P w K mg base 3 "_law_signed" R__law_signed := by
  have hb := Fu.binds (ps := ["dice", "most"]) fun _ _ _ _ _ _ us hl => match us, hl with | [_, _], _ => rfl
  refine kn_of (kk := 2) Fu sc__law_signed hb hmf rfl (by decide) relD_len ?_
  rintro rs ms r ms' ⟨mc, k, d, d', tl, args, hkm, rfl, hnn, rfl, rfl, v_most, rfl, v, h, rfl, rfl⟩
  show Ex _ _ [.mu k, .dat (.int v_most)] (MD mc k d ++ tl) (fun o => Fin (MD mc k v.2 ++ tl) o (.dat (.int v.1)))
  unfold m__law_signed at h
  show Ex _ _ [.mu k, .dat (.int v_most)] _ _
  obtain ⟨p1, hp1, h⟩ := bindS h
  obtain ⟨p2, hp2, h⟩ := bindS h
  obtain ⟨t3, ht3, h⟩ := bindS h
  obtain rfl := someS h
  exact ex_out (ss_ret (ee_mulO (ee_callD (r := .dat (.int p1.1)) (d' := p1.2) hkm g__law_great (Nat.le_of_ble_eq_true rfl) (by rfl) rfl (ea_cons (fun _ _ _ p q => pa_cons p q) (ee_mu 0 rfl (Or.inl rfl) rfl) (ea_cons (fun _ _ _ p q => pa_cons p q) (ee_var 1 rfl (Or.inl rfl) rfl) ea_nil)) ⟨v_most, rfl, p1, hp1, rfl, rfl⟩ (mu_mu (.inr tch0) (mu_dat mu_nil))) (ee_callD (r := .dat (.int p2.1)) (d' := p2.2) hkm g__law_one_of (Nat.le_of_ble_eq_true rfl) (by rfl) rfl (ea_cons (fun _ _ _ p q => pa_cons p q) (ee_mu 0 rfl (Or.inl rfl) rfl) (ea_cons (fun _ _ _ p q => pa_cons p q) (ee_lst (ea_cons (fun _ _ _ p q => pa_cons p q) ee_int (ea_cons (fun _ _ _ p q => pa_cons p q) ee_int (ea_cons (fun _ _ _ p q => pa_cons p q) (ee_is (r' := .dat (.int (-1))) (ee_sub ee_int ee_int) (isI (by decide +kernel))) ea_nil))) rfl (lnOk 3 rfl (by decide))) ea_nil)) (one_of_A PyData.int ([1, 1, (-1)] : List Int) hp2) (mu_mu (.inr tch0) (mu_dat mu_nil))) ht3)) rfl fin_dat

def s_is_within : Stmt := topS 9
def nm_is_within : List Str := ["value", "least", "most"]
theorem sc_is_within : FnScope nm_is_within ["value", "least", "most"] (defScope s_is_within) := ⟨rfl, rfl, rfl, by decide +kernel, rfl, by decide +kernel, by decide +kernel⟩
def m_is_within (v_value : D) (v_least : Int) (v_most : Int) : Option (Bool) := (if (isi "int" v_value) = true then ((if (!(isi "bool" v_value)) = true then ((intD v_value).bind fun t1 => some (decide (v_least ≤ t1) && decide (t1 ≤ v_most))) else some false).bind fun t2 => some t2) else some false).bind fun t4 => some t4
def R_is_within : Rel := fun rs ms r ms2 => ∃ (v_value : D) (v_least : Int) (v_most : Int), rs = [.dat v_value, .dat (.int v_least), .dat (.int v_most)] ∧ ms2 = ms ∧ ∃ v : Bool, m_is_within v_value v_least v_most = some v ∧ r = .dat (.bool v)
theorem kn_is_within (T : Txt K mg) {f : Addr} {fd : FuncData} (Fu : Fun K "is_within" "is_within" s_is_within f fd) (hmf : mg "is_within" = some (.ref f))  : Kn P w K mg base 1 "is_within" R_is_within := by
  have hb := Fu.binds (ps := ["value", "least", "most"]) fun _ _ _ _ _ _ us hl => match us, hl with | [_, _, _], _ => rfl
  refine kn_of (kk := 0) Fu sc_is_within hb hmf rfl (by decide) (by rintro rs ms0 r ms ⟨v_value, v_least, v_most, rfl, rfl, v, h, rfl⟩; exact ⟨rfl, rfl⟩) ?_
  rintro rs ms0 r ms ⟨v_value, v_least, v_most, rfl, rfl, v, h, rfl⟩
  show Ex _ _ [.dat v_value, .dat (.int v_least), .dat (.int v_most)] ms (fun o => Fin ms o (.dat (.bool v)))
  unfold m_is_within at h
  show Ex _ _ [.dat v_value, .dat (.int v_least), .dat (.int v_most)] _ _
  obtain ⟨t4, ht4, h⟩ := bindS h
  obtain rfl := someS h
  exact ex_out (ss_ret (ee_andO (ee_isi T.isinstance (by rfl) (isi_int v_value) (ea_cons (fun _ _ _ p q => pa_cons p q) (ee_var 0 rfl (Or.inl rfl) rfl) (ea_cons (fun _ _ _ p q => pa_cons p q) (ee_ty T.int (by rfl) bt_int) ea_nil))) ht4 (fun _ g5 => by obtain ⟨t2, ht2, g5⟩ := bindS g5; obtain rfl := someS g5; exact (ee_andO (ee_not (ee_isi T.isinstance (by rfl) (isi_bool v_value) (ea_cons (fun _ _ _ p q => pa_cons p q) (ee_var 0 rfl (Or.inl rfl) rfl) (ea_cons (fun _ _ _ p q => pa_cons p q) (ee_ty T.bool (by rfl) bt_bool) ea_nil)))) ht2 (fun _ g3 => by obtain ⟨t1, ht1, g3⟩ := bindS g3; obtain rfl := someS g3; exact (ee_one (ee_chain (fun _ => op_le) (fun _ => op_le) (by with_unfolding_all rfl) (ee_var 1 rfl (Or.inl rfl) rfl) (ee_is (ee_var 0 rfl (Or.inl rfl) rfl) (by rw [intD_some ht1])) (ee_var 2 rfl (Or.inl rfl) rfl)))))))) rfl fin_dat

def s_require_many : Stmt := topS 55
def nm_require_many : List Str := ["many", "most"]
theorem sc_require_many : FnScope nm_require_many ["many", "most"] (defScope s_require_many) := ⟨rfl, rfl, rfl, by decide +kernel, rfl, by decide +kernel, by decide +kernel⟩
def m_require_many (v_many : D) (v_most : Int) : Option (Unit) := (m_is_within v_many 1 v_most).bind fun t1 => if (!t1) = true then (none) else (some ())
def R_require_many : Rel := fun rs ms r ms2 => ∃ (v_many : D) (v_most : Int), rs = [.dat v_many, .dat (.int v_most)] ∧ ms2 = ms ∧ ∃ v : Unit, m_require_many v_many v_most = some v ∧ r = .dat .none
theorem kn_require_many (T : Txt K mg) {f : Addr} {fd : FuncData} (Fu : Fun K "require_many" "require_many" s_require_many f fd) (hmf : mg "require_many" = some (.ref f)) (g_is_within : Kn P w K mg base 1 "is_within" R_is_within) : Kn P w K mg base 2 "require_many" R_require_many := by
  have hb := Fu.binds (ps := ["many", "most"]) fun _ _ _ _ _ _ us hl => match us, hl with | [_, _], _ => rfl
  refine kn_of (kk := 1) Fu sc_require_many hb hmf rfl (by decide) (by rintro rs ms0 r ms ⟨v_many, v_most, rfl, rfl, v, h, rfl⟩; exact ⟨rfl, rfl⟩) ?_
  rintro rs ms0 r ms ⟨v_many, v_most, rfl, rfl, v, h, rfl⟩
  show Ex _ _ [.dat v_many, .dat (.int v_most)] ms (fun o => Fin ms o (.dat .none))
  unfold m_require_many at h
  show Ex _ _ [.dat v_many, .dat (.int v_most)] _ _
  obtain ⟨t1, ht1, h⟩ := bindS h
  rcases boolCases (!t1) with hc2 | hc2
  · have h := iteT' hc2 h
    refine ex_ifT (et_not (et_val (fun _ _ => rfl) (ee_call g_is_within (Nat.le_of_ble_eq_true rfl) (by rfl) (ea_cons (fun _ _ _ p q => pa_cons p q) (ee_var 0 rfl (Or.inl rfl) rfl) (ea_cons (fun _ _ _ p q => pa_cons p q) ee_int (ea_cons (fun _ _ _ p q => pa_cons p q) (ee_var 1 rfl (Or.inl rfl) rfl) ea_nil))) ⟨v_many, 1, v_most, rfl, rfl, t1, ht1, rfl⟩ (mu_dat (mu_dat (mu_dat mu_nil)))))) hc2 ?_
    cases h
  · have h := iteF' hc2 h
    refine ex_ifF0 (et_not (et_val (fun _ _ => rfl) (ee_call g_is_within (Nat.le_of_ble_eq_true rfl) (by rfl) (ea_cons (fun _ _ _ p q => pa_cons p q) (ee_var 0 rfl (Or.inl rfl) rfl) (ea_cons (fun _ _ _ p q => pa_cons p q) ee_int (ea_cons (fun _ _ _ p q => pa_cons p q) (ee_var 1 rfl (Or.inl rfl) rfl) ea_nil))) ⟨v_many, 1, v_most, rfl, rfl, t1, ht1, rfl⟩ (mu_dat (mu_dat (mu_dat mu_nil)))))) hc2 ?_
    obtain rfl := someS h
    exact ex_nil fin_none

def s_is_integer : Stmt := topS 53
def nm_is_integer : List Str := ["value"]
theorem sc_is_integer : FnScope nm_is_integer ["value"] (defScope s_is_integer) := ⟨rfl, rfl, rfl, by decide +kernel, rfl, by decide +kernel, by decide +kernel⟩
def m_is_integer (v_value : D) : Option (Bool) := (m_is_within v_value (-999999999999999999999999999999999999999999999999999999999999) 999999999999999999999999999999999999999999999999999999999999).bind fun t1 => some t1
def R_is_integer : Rel := fun rs ms r ms2 => ∃ (v_value : D), rs = [.dat v_value] ∧ ms2 = ms ∧ ∃ v : Bool, m_is_integer v_value = some v ∧ r = .dat (.bool v)
theorem kn_is_integer (T : Txt K mg) {f : Addr} {fd : FuncData} (Fu : Fun K "is_integer" "is_integer" s_is_integer f fd) (hmf : mg "is_integer" = some (.ref f)) (g_is_within : Kn P w K mg base 1 "is_within" R_is_within) : Kn P w K mg base 2 "is_integer" R_is_integer := by
  have hb := Fu.binds (ps := ["value"]) fun _ _ _ _ _ _ us hl => match us, hl with | [_], _ => rfl
  refine kn_of (kk := 1) Fu sc_is_integer hb hmf rfl (by decide) (by rintro rs ms0 r ms ⟨v_value, rfl, rfl, v, h, rfl⟩; exact ⟨rfl, rfl⟩) ?_
  rintro rs ms0 r ms ⟨v_value, rfl, rfl, v, h, rfl⟩
  show Ex _ _ [.dat v_value] ms (fun o => Fin ms o (.dat (.bool v)))
  unfold m_is_integer at h
  show Ex _ _ [.dat v_value] _ _
  obtain ⟨t1, ht1, h⟩ := bindS h
  obtain rfl := someS h
  exact ex_out (ss_ret (ee_call g_is_within (Nat.le_of_ble_eq_true rfl) (by rfl) (ea_cons (fun _ _ _ p q => pa_cons p q) (ee_var 0 rfl (Or.inl rfl) rfl) (ea_cons (fun _ _ _ p q => pa_cons p q) (ee_neg (ee_gint T.c_GREAT (by rfl))) (ea_cons (fun _ _ _ p q => pa_cons p q) (ee_gint T.c_GREAT (by rfl)) ea_nil))) ⟨v_value, (-999999999999999999999999999999999999999999999999999999999999), 999999999999999999999999999999999999999999999999999999999999, rfl, rfl, t1, ht1, rfl⟩ (mu_dat (mu_dat (mu_dat mu_nil))))) rfl fin_dat

def s_require_integer : Stmt := topS 56
def nm_require_integer : List Str := ["values", "value"]
theorem sc_require_integer : FnScope nm_require_integer ["values"] (defScope s_require_integer) := ⟨rfl, rfl, rfl, by decide +kernel, rfl, by decide +kernel, by decide +kernel⟩
def m_require_integer (v_values : List D) : Option (Unit) := (forS (fun (x2 : D) (s1 : Unit) => (m_is_integer x2).bind fun t5 => if (!t5) = true then (none) else (some ())) (v_values : List D) ()).bind fun s4 => some ()
def R_require_integer : Rel := fun rs ms r ms2 => ∃ l : List D, rs = l.map (fun d => Rs.dat d) ∧ l.length ≤ sizeLine ∧ ms2 = ms ∧ ∃ v : Unit, m_require_integer l = some v ∧ r = .dat .none
theorem kn_require_integer (T : Txt K mg) {f : Addr} {fd : FuncData} (Fu : Fun K "require_integer" "require_integer" s_require_integer f fd) (hmf : mg "require_integer" = some (.ref f)) (g_is_integer : Kn P w K mg base 2 "is_integer" R_is_integer) : Kn P w K mg base 3 "require_integer" R_require_integer := by
  refine kn_star (kk := 2) (pv := "values") (N := nm_require_integer) Fu sc_require_integer hmf (by decide) (fun _ _ _ _ _ _ us rest hl => match us, rest, hl with | [], [], _ => rfl | [], _ :: _, _ => rfl) ?_
  rintro rs ms0 r ms ⟨v_values, rfl, hz, rfl, v, h, rfl⟩
  refine ⟨v_values, rfl, hz, rfl, ?_⟩
  show Ex _ _ [.dat (PyData.tuple v_values), .un] ms (fun o => Fin ms o (.dat .none))
  unfold m_require_integer at h
  show Ex _ _ [.dat (PyData.tuple v_values), .un] _ _
  obtain ⟨s4, hs4, h⟩ := bindS h
  refine ex_cons (ss_forS (s0 := ()) (fun d : D => d) _ _ (fun s1 : Unit => [.dat (PyData.tuple v_values), .un]) (fun s1 : Unit => ms) (ms.length) (fun _ _ => rfl) (it_D (it_tup (fun X _ h => pi_tup h) (ee_var 0 rfl (Or.inl rfl) rfl))) (fun _ => trivial) (fun _ => rfl) (.cons .dat (.cons .un .nil))
    (fun x2 _ s1 s3 h => ⟨_, _, (eg_name 1 sc_require_integer.nd rfl (Or.inl rfl) (.inl rfl)), by
      show Ex _ _ [.dat (PyData.tuple v_values), .dat x2] _ _
      obtain ⟨t5, ht5, h⟩ := bindS h
      rcases boolCases (!t5) with hc6 | hc6
      · have h := iteT' hc6 h
        refine ex_ifT (et_not (et_val (fun _ _ => rfl) (ee_call g_is_integer (Nat.le_of_ble_eq_true rfl) (by rfl) (ea_cons (fun _ _ _ p q => pa_cons p q) (ee_var 1 rfl (Or.inl rfl) rfl) ea_nil) ⟨x2, rfl, rfl, t5, ht5, rfl⟩ (mu_dat mu_nil)))) hc6 ?_
        cases h
      · have h := iteF' hc6 h
        refine ex_ifF0 (et_not (et_val (fun _ _ => rfl) (ee_call g_is_integer (Nat.le_of_ble_eq_true rfl) (by rfl) (ea_cons (fun _ _ _ p q => pa_cons p q) (ee_var 1 rfl (Or.inl rfl) rfl) ea_nil) ⟨x2, rfl, rfl, t5, ht5, rfl⟩ (mu_dat mu_nil)))) hc6 ?_
        obtain rfl := someS h
        exact ex_nil (turn_go (.cons .dat (.cons .un .nil)))
    ⟩) hs4) ?_
  obtain rfl := someS h
  exact ex_nil fin_none

def s_floors_in : Stmt := topS 52
def nm_floors_in : List Str := ["many", "above", "more", "below", "found", "last"]
theorem sc_floors_in : FnScope nm_floors_in ["many", "above", "more", "below"] (defScope s_floors_in) := ⟨rfl, rfl, rfl, by decide +kernel, rfl, by decide +kernel, by decide +kernel⟩
def m_floors_in (v_many : Int) (v_above : Int) (v_more : Int) (v_below : Int) : Option (Int) := (((whileL (fun s1 : Int × Int × Int × Int × Int => some (decide (0 < s1.2.2.2.1))) (fun s1 : Int × Int × Int × Int × Int => ((mulO s1.2.2.2.1 (s1.2.2.2.1 - 1)).bind fun t6 => (divO t6 2).bind fun t7 => (divO s1.2.1 s1.2.2.2.2).bind fun t8 => (mulO t7 t8).bind fun t9 => (divO s1.2.2.1 s1.2.2.2.2).bind fun t10 => (mulO s1.2.2.2.1 t10).bind fun t11 => (modO s1.2.1 s1.2.2.2.2).bind fun t12 => (modO s1.2.2.1 s1.2.2.2.2).bind fun t13 => (mulO t12 s1.2.2.2.1).bind fun t14 => if (decide ((t14 + t13) < s1.2.2.2.2)) = true then (some (.brk ((s1.1 + (t9 + t11)), t12, t13, s1.2.2.2.1, s1.2.2.2.2))) else ((divO (t14 + t13) s1.2.2.2.2).bind fun t16 => (modO (t14 + t13) s1.2.2.2.2).bind fun t17 => some (.go ((s1.1 + (t9 + t11)), s1.2.2.2.2, t17, t16, t12))) : Option (Lo (Int × Int × Int × Int × Int) Unit))) FUEL (0, v_above, v_more, v_many, v_below)).bind loSt).bind fun s2 => some s2.1)
def R_floors_in : Rel := fun rs ms r ms2 => ∃ (v_many : Int) (v_above : Int) (v_more : Int) (v_below : Int), rs = [.dat (.int v_many), .dat (.int v_above), .dat (.int v_more), .dat (.int v_below)] ∧ ms2 = ms ∧ ∃ v : Int, m_floors_in v_many v_above v_more v_below = some v ∧ r = .dat (.int v)
theorem kn_floors_in (T : Txt K mg) {f : Addr} {fd : FuncData} (Fu : Fun K "floors_in" "floors_in" s_floors_in f fd) (hmf : mg "floors_in" = some (.ref f))  : Kn P w K mg base 1 "floors_in" R_floors_in := by
  have hb := Fu.binds (ps := ["many", "above", "more", "below"]) fun _ _ _ _ _ _ us hl => match us, hl with | [_, _, _, _], _ => rfl
  refine kn_of (kk := 0) Fu sc_floors_in hb hmf rfl (by decide) (by rintro rs ms0 r ms ⟨v_many, v_above, v_more, v_below, rfl, rfl, v, h, rfl⟩; exact ⟨rfl, rfl⟩) ?_
  rintro rs ms0 r ms ⟨v_many, v_above, v_more, v_below, rfl, rfl, v, h, rfl⟩
  show Ex _ _ [.dat (.int v_many), .dat (.int v_above), .dat (.int v_more), .dat (.int v_below), .un, .un] ms (fun o => Fin ms o (.dat (.int v)))
  unfold m_floors_in at h
  show Ex _ _ [.dat (.int v_many), .dat (.int v_above), .dat (.int v_more), .dat (.int v_below), .un, .un] _ _
  refine ex_cons (ss_set 4 sc_floors_in.nd rfl (Or.inl rfl) (.inl rfl) (fun _ => rfl) ee_int rfl) ?_
  show Ex _ _ [.dat (.int v_many), .dat (.int v_above), .dat (.int v_more), .dat (.int v_below), .dat (.int 0), .un] _ _
  obtain ⟨s2, hs2, h⟩ := bindS h
  obtain ⟨o5, ho5, hs2⟩ := bindS hs2
  refine ex_loop (ss_while (s0 := (0, v_above, v_more, v_many, v_below)) hpn _ _ (fun s1 : Int × Int × Int × Int × Int => [.dat (.int s1.2.2.2.1), .dat (.int s1.2.1), .dat (.int s1.2.2.1), .dat (.int s1.2.2.2.2), .dat (.int s1.1), .un]) (fun s1 : Int × Int × Int × Int × Int => ms) (fun _ : Unit => Rs.dat .none) (fun _ : Unit => []) (ms.length) _ rfl (fun _ => rfl) (.cons .dat (.cons .dat (.cons .dat (.cons .dat (.cons .dat (.cons .un .nil))))))
    (fun s1 t3 h => by
      obtain rfl := someS h
      exact (et_gt (nobehind _ (by decide) (by decide)) (ee_var 0 rfl (Or.inl rfl) rfl) ee_int)
    ) (fun s1 o _ h => lo_of (fun _ => rfl) rfl (by
      show Ex _ _ [.dat (.int s1.2.2.2.1), .dat (.int s1.2.1), .dat (.int s1.2.2.1), .dat (.int s1.2.2.2.2), .dat (.int s1.1), .un] _ _
      obtain ⟨t6, ht6, h⟩ := bindS h
      obtain ⟨t7, ht7, h⟩ := bindS h
      obtain ⟨t8, ht8, h⟩ := bindS h
      obtain ⟨t9, ht9, h⟩ := bindS h
      obtain ⟨t10, ht10, h⟩ := bindS h
      obtain ⟨t11, ht11, h⟩ := bindS h
      refine ex_cons (ss_aug 4 sc_floors_in.nd rfl (Or.inl rfl) (.inl rfl) (fun _ => ip_add) rfl (ee_add (ee_mulO (ee_divO (ee_mulO (ee_var 0 rfl (Or.inl rfl) rfl) (ee_sub (ee_var 0 rfl (Or.inl rfl) rfl) ee_int) ht6) ee_int ht7) (ee_divO (ee_var 1 rfl (Or.inl rfl) rfl) (ee_var 3 rfl (Or.inl rfl) rfl) ht8) ht9) (ee_mulO (ee_var 0 rfl (Or.inl rfl) rfl) (ee_divO (ee_var 2 rfl (Or.inl rfl) rfl) (ee_var 3 rfl (Or.inl rfl) rfl) ht10) ht11))) ?_
      show Ex _ _ [.dat (.int s1.2.2.2.1), .dat (.int s1.2.1), .dat (.int s1.2.2.1), .dat (.int s1.2.2.2.2), .dat (.int (s1.1 + (t9 + t11))), .un] _ _
      obtain ⟨t12, ht12, h⟩ := bindS h
      obtain ⟨t13, ht13, h⟩ := bindS h
      refine ex_cons (ss_par 1 2 sc_floors_in.nd rfl rfl (by decide) rfl rfl (fun X hX => (sw_env (env' := env0 (defScope s_floors_in)) hX.sc _ _).trans rfl) (ea_cons (fun _ _ _ p q => pa_cons p q) (ee_modO (ee_var 1 rfl (Or.inl rfl) rfl) (ee_var 3 rfl (Or.inl rfl) rfl) ht12) (ea_cons (fun _ _ _ p q => pa_cons p q) (ee_modO (ee_var 2 rfl (Or.inl rfl) rfl) (ee_var 3 rfl (Or.inl rfl) rfl) ht13) ea_nil)) rfl rfl) ?_
      show Ex _ _ [.dat (.int s1.2.2.2.1), .dat (.int t12), .dat (.int t13), .dat (.int s1.2.2.2.2), .dat (.int (s1.1 + (t9 + t11))), .un] _ _
      obtain ⟨t14, ht14, h⟩ := bindS h
      refine ex_cons (ss_set 5 sc_floors_in.nd rfl (Or.inl rfl) (.inl rfl) (fun _ => rfl) (ee_add (ee_mulO (ee_var 1 rfl (Or.inl rfl) rfl) (ee_var 0 rfl (Or.inl rfl) rfl) ht14) (ee_var 2 rfl (Or.inl rfl) rfl)) rfl) ?_
      show Ex _ _ [.dat (.int s1.2.2.2.1), .dat (.int t12), .dat (.int t13), .dat (.int s1.2.2.2.2), .dat (.int (s1.1 + (t9 + t11))), .dat (.int (t14 + t13))] _ _
      rcases boolCases (decide ((t14 + t13) < s1.2.2.2.2)) with hc15 | hc15
      · have h := iteT' hc15 h
        refine ex_ifT (et_lt (nobehind _ (by decide) (by decide)) (ee_var 5 rfl (Or.inl rfl) rfl) (ee_var 3 rfl (Or.inl rfl) rfl)) hc15 ?_
        obtain rfl := someS h
        exact ex_out ss_break rfl (by first | exact turn_brk (.cons .dat (.cons .dat (.cons .dat (.cons .dat (.cons .dat (.cons .un .nil)))))) | (simp only [thenEx]; exact turn_brk (.cons .dat (.cons .dat (.cons .dat (.cons .dat (.cons .dat (.cons .un .nil))))))))
      · have h := iteF' hc15 h
        refine ex_ifF0 (et_lt (nobehind _ (by decide) (by decide)) (ee_var 5 rfl (Or.inl rfl) rfl) (ee_var 3 rfl (Or.inl rfl) rfl)) hc15 ?_
        obtain ⟨t16, ht16, h⟩ := bindS h
        obtain ⟨t17, ht17, h⟩ := bindS h
        refine ex_cons (ss_asgS (fun _ => rfl) (fun X hX => (sw_env (env' := env0 (defScope s_floors_in)) hX.sc _ _).trans rfl) (fun _ => rfl) (ee_tup (ea_cons (fun _ _ _ p q => pa_cons p q) (ee_divO (ee_var 5 rfl (Or.inl rfl) rfl) (ee_var 3 rfl (Or.inl rfl) rfl) ht16) (ea_cons (fun _ _ _ p q => pa_cons p q) (ee_modO (ee_var 5 rfl (Or.inl rfl) rfl) (ee_var 3 rfl (Or.inl rfl) rfl) ht17) (ea_cons (fun _ _ _ p q => pa_cons p q) (ee_var 3 rfl (Or.inl rfl) rfl) (ea_cons (fun _ _ _ p q => pa_cons p q) (ee_var 1 rfl (Or.inl rfl) rfl) ea_nil)))) rfl (lnOk 4 rfl (by decide))) rfl (eg_tup (fun _ => rfl) (fun _ => rfl) (egs_cons (fun _ _ _ p q => pgs_cons p q) (eg_name 0 sc_floors_in.nd rfl (Or.inl rfl) (.inl rfl)) (egs_cons (fun _ _ _ p q => pgs_cons p q) (eg_name 2 sc_floors_in.nd rfl (Or.inl rfl) (.inl rfl)) (egs_cons (fun _ _ _ p q => pgs_cons p q) (eg_name 1 sc_floors_in.nd rfl (Or.inl rfl) (.inl rfl)) (egs_cons (fun _ _ _ p q => pgs_cons p q) (eg_name 3 sc_floors_in.nd rfl (Or.inl rfl) (.inl rfl)) egs_nil)))))) ?_
        obtain rfl := someS h
        exact ex_nil (turn_go (.cons .dat (.cons .dat (.cons .dat (.cons .dat (.cons .dat (.cons .un .nil)))))))
    )) ho5) (fun Fo5 => ?_)
  rw [loSt_end hs2] at Fo5
  refine ex_cons Fo5 ?_
  show Ex _ _ [.dat (.int s2.2.2.2.1), .dat (.int s2.2.1), .dat (.int s2.2.2.1), .dat (.int s2.2.2.2.2), .dat (.int s2.1), .un] _ _
  obtain rfl := someS h
  exact ex_out (ss_ret (ee_var 4 rfl (Or.inl rfl) rfl)) rfl fin_dat

def s_floor_sum : Stmt := topS 59
def nm_floor_sum : List Str := ["many", "above", "more", "below"]
theorem sc_floor_sum : FnScope nm_floor_sum ["many", "above", "more", "below"] (defScope s_floor_sum) := ⟨rfl, rfl, rfl, by decide +kernel, rfl, by decide +kernel, by decide +kernel⟩
def m_floor_sum (v_many : Int) (v_above : Int) (v_more : Int) (v_below : Int) : Option (Int) := (m_require_many (.int v_many) 1000000000).bind fun t1 => (m_require_integer [(.int v_above), (.int v_more)]).bind fun t2 => (m_require_many (.int v_below) 999999999999999999999999999999999999999999999999999999999999).bind fun t3 => (m_floors_in v_many v_above v_more v_below).bind fun t4 => some t4
def R_floor_sum : Rel := fun rs ms r ms2 => ∃ (v_many : Int) (v_above : Int) (v_more : Int) (v_below : Int), rs = [.dat (.int v_many), .dat (.int v_above), .dat (.int v_more), .dat (.int v_below)] ∧ ms2 = ms ∧ ∃ v : Int, m_floor_sum v_many v_above v_more v_below = some v ∧ r = .dat (.int v)
theorem kn_floor_sum (T : Txt K mg) {f : Addr} {fd : FuncData} (Fu : Fun K "floor_sum" "floor_sum" s_floor_sum f fd) (hmf : mg "floor_sum" = some (.ref f)) (g_require_many : Kn P w K mg base 2 "require_many" R_require_many) (g_require_integer : Kn P w K mg base 3 "require_integer" R_require_integer) (g_floors_in : Kn P w K mg base 1 "floors_in" R_floors_in) : Kn P w K mg base 4 "floor_sum" R_floor_sum := by
  have hb := Fu.binds (ps := ["many", "above", "more", "below"]) fun _ _ _ _ _ _ us hl => match us, hl with | [_, _, _, _], _ => rfl
  refine kn_of (kk := 3) Fu sc_floor_sum hb hmf rfl (by decide) (by rintro rs ms0 r ms ⟨v_many, v_above, v_more, v_below, rfl, rfl, v, h, rfl⟩; exact ⟨rfl, rfl⟩) ?_
  rintro rs ms0 r ms ⟨v_many, v_above, v_more, v_below, rfl, rfl, v, h, rfl⟩
  show Ex _ _ [.dat (.int v_many), .dat (.int v_above), .dat (.int v_more), .dat (.int v_below)] ms (fun o => Fin ms o (.dat (.int v)))
  unfold m_floor_sum at h
  show Ex _ _ [.dat (.int v_many), .dat (.int v_above), .dat (.int v_more), .dat (.int v_below)] _ _
  obtain ⟨t1, ht1, h⟩ := bindS h
  refine ex_cons (ss_drop (fun _ => rfl) (ee_call g_require_many (Nat.le_of_ble_eq_true rfl) (by rfl) (ea_cons (fun _ _ _ p q => pa_cons p q) (ee_var 0 rfl (Or.inl rfl) rfl) (ea_cons (fun _ _ _ p q => pa_cons p q) (ee_gint T.c_MOST_TIMES (by rfl)) ea_nil)) ⟨(.int v_many), 1000000000, rfl, rfl, t1, ht1, rfl⟩ (mu_dat (mu_dat mu_nil)))) ?_
  obtain ⟨t2, ht2, h⟩ := bindS h
  refine ex_cons (ss_drop (fun _ => rfl) (ee_call g_require_integer (Nat.le_of_ble_eq_true rfl) (by rfl) (ea_cons (fun _ _ _ p q => pa_cons p q) (ee_var 1 rfl (Or.inl rfl) rfl) (ea_cons (fun _ _ _ p q => pa_cons p q) (ee_var 2 rfl (Or.inl rfl) rfl) ea_nil)) ⟨[(.int v_above), (.int v_more)], rfl, (lnOk 2 rfl (by decide)), rfl, t2, ht2, rfl⟩ (mu_dat (mu_dat mu_nil)))) ?_
  obtain ⟨t3, ht3, h⟩ := bindS h
  refine ex_cons (ss_drop (fun _ => rfl) (ee_call g_require_many (Nat.le_of_ble_eq_true rfl) (by rfl) (ea_cons (fun _ _ _ p q => pa_cons p q) (ee_var 3 rfl (Or.inl rfl) rfl) (ea_cons (fun _ _ _ p q => pa_cons p q) (ee_gint T.c_GREAT (by rfl)) ea_nil)) ⟨(.int v_below), 999999999999999999999999999999999999999999999999999999999999, rfl, rfl, t3, ht3, rfl⟩ (mu_dat (mu_dat mu_nil)))) ?_
  obtain ⟨t4, ht4, h⟩ := bindS h
  obtain rfl := someS h
  exact ex_out (ss_ret (ee_call g_floors_in (Nat.le_of_ble_eq_true rfl) (by rfl) (ea_cons (fun _ _ _ p q => pa_cons p q) (ee_var 0 rfl (Or.inl rfl) rfl) (ea_cons (fun _ _ _ p q => pa_cons p q) (ee_var 1 rfl (Or.inl rfl) rfl) (ea_cons (fun _ _ _ p q => pa_cons p q) (ee_var 2 rfl (Or.inl rfl) rfl) (ea_cons (fun _ _ _ p q => pa_cons p q) (ee_var 3 rfl (Or.inl rfl) rfl) ea_nil)))) ⟨v_many, v_above, v_more, v_below, rfl, rfl, t4, ht4, rfl⟩ (mu_dat (mu_dat (mu_dat (mu_dat mu_nil)))))) rfl fin_dat

def s__law_parts_right : Stmt := topS 67
def nm__law_parts_right : List Str := ["dice", "many", "below", "above", "more", "whole", "times", "told", "wanted", "first", "top"]
theorem sc__law_parts_right : FnScope nm__law_parts_right ["dice"] (defScope s__law_parts_right) := ⟨rfl, rfl, rfl, by decide +kernel, rfl, by decide +kernel, by decide +kernel⟩
def m__law_parts_right (d : Dice)  : Option (Bool × Dice) := (m__law_one_of d ([3, 40, 999999993] : List Int)).bind fun p1 => (m__law_great p1.2 p1.1).bind fun p2 => (m__law_one_of p2.2 ([2, 12, 997, 100000000000, 10000000000000000000000000000000000000000] : List Int)).bind fun p3 => (m__law_great p3.2 p3.1).bind fun p4 => (mulO 3 (1 + p4.1)).bind fun t5 => (m__law_signed p4.2 t5).bind fun p6 => (mulO 3 (1 + p4.1)).bind fun t7 => (m__law_one_of p6.2 ([(1 + p4.1), t7, 100000000000000000000000000000000000000000] : List Int)).bind fun p8 => (m__law_signed p8.2 p8.1).bind fun p9 => (m_floor_sum (1 + p2.1) p6.1 p9.1 (1 + p4.1)).bind fun t10 => (m__law_signed p9.2 99).bind fun p11 => (mulO p11.1 (1 + p4.1)).bind fun t12 => (m_floor_sum (1 + p2.1) (p6.1 + t12) p9.1 (1 + p4.1)).bind fun t13 => (mulO p11.1 (1 + p4.1)).bind fun t14 => (m_floor_sum (1 + p2.1) p6.1 (p9.1 + t14) (1 + p4.1)).bind fun t15 => (mulO (1 + p2.1) ((1 + p2.1) - 1)).bind fun t16 => (divO t16 2).bind fun t17 => (mulO p11.1 t17).bind fun t18 => (mulO p11.1 (1 + p2.1)).bind fun t19 => (mulO p6.1 ((1 + p2.1) - 1)).bind fun t20 => (m_floor_sum (1 + p2.1) (0 - p6.1) (t20 + p9.1) (1 + p4.1)).bind fun t21 => (m_floor_sum (1 + p2.1) (0 - p6.1) (0 - p9.1) (1 + p4.1)).bind fun t22 => (m_floor_sum (1 + p2.1) p6.1 ((p9.1 + (1 + p4.1)) - 1) (1 + p4.1)).bind fun t23 => (mulO 7 p6.1).bind fun t24 => (mulO 7 p9.1).bind fun t25 => (m__law_roll p11.2 7).bind fun p26 => (mulO 7 (1 + p4.1)).bind fun t27 => (m_floor_sum (1 + p2.1) t24 (t25 + p26.1) t27).bind fun t28 => (m_floor_sum (1 + p2.1) p6.1 p9.1 1).bind fun t29 => (mulO (1 + p2.1) ((1 + p2.1) - 1)).bind fun t30 => (divO t30 2).bind fun t31 => (mulO p6.1 t31).bind fun t32 => (mulO p9.1 (1 + p2.1)).bind fun t33 => (eqO (e_v6iiiiii (t13, t15, t21, t22, t28, t29)) (e_v6iiiiii ((t10 + t18), (t10 + t19), t10, (0 - t23), t10, (t32 + t33)))).bind fun t34 => if (!t34) = true then (some (false, p26.2)) else ((m__law_great p26.2 (1 + p2.1)).bind fun p36 => (if (decide (0 < p36.1)) = true then ((m_floor_sum p36.1 p6.1 p9.1 (1 + p4.1)).bind fun t37 => (mulO p6.1 p36.1).bind fun t38 => (m_floor_sum ((1 + p2.1) - p36.1) p6.1 (p9.1 + t38) (1 + p4.1)).bind fun t39 => some (decide ((t37 + t39) ≠ t10))) else some false).bind fun t41 => if t41 = true then (some (false, p36.2)) else ((modO p6.1 (1 + p4.1)).bind fun t43 => (modO p9.1 (1 + p4.1)).bind fun t44 => (mulO t43 ((1 + p2.1) - 1)).bind fun t45 => (divO (t45 + t44) (1 + p4.1)).bind fun t46 => (m_floor_sum (1 + p2.1) t43 t44 (1 + p4.1)).bind fun t47 => if ((decide (t43 = 0)) || (decide (t46 = 0))) = true then (some ((decide (t47 = 0)), p36.2)) else ((if (decide (1000000000 < t46)) = true then some true else ((mulO (1 + p2.1) t46).bind fun t49 => (m_floor_sum t46 (1 + p4.1) ((((1 + p4.1) - t44) + t43) - 1) t43).bind fun t50 => some (decide (t47 = (t49 - t50))))).bind fun t51 => some (t51, p36.2))))
def A__law_parts_right : List Rs → Dice → Rs → Dice → Prop := fun args d r d2 => args = [] ∧ ∃ v : Bool × Dice, m__law_parts_right d = some v ∧ r = .dat (.bool v.1) ∧ d2 = v.2
abbrev R__law_parts_right : Rel := RelD 1 A__law_parts_right
theorem kn__law_parts_right (T : Txt K mg) {f : Addr} {fd : FuncData} (Fu : Fun K "_law_parts_right" "_law_parts_right" s__law_parts_right f fd) (hmf : mg "_law_parts_right" = some (.ref f)) (g__law_great : Kn P w K mg base 2 "_law_great" R__law_great) (g__law_one_of : Kn P w K mg base 2 "_law_one_of" R__law_one_of) (g__law_signed : Kn P w K mg base 3 "_law_signed" R__law_signed) (g_floor_sum : Kn P w K mg base 4 "floor_sum" R_floor_sum) (g__law_roll : Kn P w K mg base 1 "_law_roll" R__law_roll) : Kn P w K mg base 5 "_law_parts_right" R__law_parts_right := by
  have hb := Fu.binds (ps := ["dice"]) fun _ _ _ _ _ _ us hl => match us, hl with | [_], _ => rfl
  refine kn_of (kk := 4) Fu sc__law_parts_right hb hmf rfl (by decide) relD_len ?_
  rintro rs ms r ms' ⟨mc, k, d, d', tl, args, hkm, rfl, hnn, rfl, rfl, rfl, v, h, rfl, rfl⟩
  show Ex _ _ [.mu k, .un, .un, .un, .un, .un, .un, .un, .un, .un, .un] (MD mc k d ++ tl) (fun o => Fin (MD mc k v.2 ++ tl) o (.dat (.bool v.1)))
  unfold m__law_parts_right at h
  show Ex _ _ [.mu k, .un, .un, .un, .un, .un, .un, .un, .un, .un, .un] _ _
  obtain ⟨p1, hp1, h⟩ := bindS h
  obtain ⟨p2, hp2, h⟩ := bindS h
  refine ex_cons (ss_set 1 sc__law_parts_right.nd rfl (Or.inl rfl) (.inl rfl) (fun _ => rfl) (ee_add ee_int (ee_callD (r := .dat (.int p2.1)) (d' := p2.2) hkm g__law_great (Nat.le_of_ble_eq_true rfl) (by rfl) rfl (ea_cons (fun _ _ _ p q => pa_cons p q) (ee_mu 0 rfl (Or.inl rfl) rfl) (ea_cons (fun _ _ _ p q => pa_cons p q) (ee_callD (r := .dat (.int p1.1)) (d' := p1.2) hkm g__law_one_of (Nat.le_of_ble_eq_true rfl) (by rfl) rfl (ea_cons (fun _ _ _ p q => pa_cons p q) (ee_mu 0 rfl (Or.inl rfl) rfl) (ea_cons (fun _ _ _ p q => pa_cons p q) (ee_lst (ea_cons (fun _ _ _ p q => pa_cons p q) ee_int (ea_cons (fun _ _ _ p q => pa_cons p q) ee_int (ea_cons (fun _ _ _ p q => pa_cons p q) (ee_is (r' := .dat (.int 999999993)) (ee_sub (ee_powC (i := 10) (j := 9) (k := 1000000000) ee_int ee_int (cpow_ok rfl) (by decide +kernel)) ee_int) (isI (by decide +kernel))) ea_nil))) rfl (lnOk 3 rfl (by decide))) ea_nil)) (one_of_A PyData.int ([3, 40, 999999993] : List Int) hp1) (mu_mu (.inr tch0) (mu_dat mu_nil))) ea_nil)) ⟨p1.1, rfl, p2, hp2, rfl, rfl⟩ (mu_mu (.inr tch0) (mu_dat mu_nil)))) rfl) ?_
  show Ex _ _ [.mu k, .dat (.int (1 + p2.1)), .un, .un, .un, .un, .un, .un, .un, .un, .un] _ _
  obtain ⟨p3, hp3, h⟩ := bindS h
  obtain ⟨p4, hp4, h⟩ := bindS h
  refine ex_cons (ss_set 2 sc__law_parts_right.nd rfl (Or.inl rfl) (.inl rfl) (fun _ => rfl) (ee_add ee_int (ee_callD (r := .dat (.int p4.1)) (d' := p4.2) hkm g__law_great (Nat.le_of_ble_eq_true rfl) (by rfl) rfl (ea_cons (fun _ _ _ p q => pa_cons p q) (ee_mu 0 rfl (Or.inl rfl) rfl) (ea_cons (fun _ _ _ p q => pa_cons p q) (ee_callD (r := .dat (.int p3.1)) (d' := p3.2) hkm g__law_one_of (Nat.le_of_ble_eq_true rfl) (by rfl) rfl (ea_cons (fun _ _ _ p q => pa_cons p q) (ee_mu 0 rfl (Or.inl rfl) rfl) (ea_cons (fun _ _ _ p q => pa_cons p q) (ee_lst (ea_cons (fun _ _ _ p q => pa_cons p q) ee_int (ea_cons (fun _ _ _ p q => pa_cons p q) ee_int (ea_cons (fun _ _ _ p q => pa_cons p q) ee_int (ea_cons (fun _ _ _ p q => pa_cons p q) (ee_powC (i := 10) (j := 11) (k := 100000000000) ee_int ee_int (cpow_ok rfl) (by decide +kernel)) (ea_cons (fun _ _ _ p q => pa_cons p q) (ee_powC (i := 10) (j := 40) (k := 10000000000000000000000000000000000000000) ee_int ee_int (cpow_ok rfl) (by decide +kernel)) ea_nil))))) rfl (lnOk 5 rfl (by decide))) ea_nil)) (one_of_A PyData.int ([2, 12, 997, 100000000000, 10000000000000000000000000000000000000000] : List Int) hp3) (mu_mu (.inr tch0) (mu_dat mu_nil))) ea_nil)) ⟨p3.1, rfl, p4, hp4, rfl, rfl⟩ (mu_mu (.inr tch0) (mu_dat mu_nil)))) rfl) ?_
  show Ex _ _ [.mu k, .dat (.int (1 + p2.1)), .dat (.int (1 + p4.1)), .un, .un, .un, .un, .un, .un, .un, .un] _ _
  obtain ⟨t5, ht5, h⟩ := bindS h
  obtain ⟨p6, hp6, h⟩ := bindS h
  obtain ⟨t7, ht7, h⟩ := bindS h
  obtain ⟨p8, hp8, h⟩ := bindS h
  obtain ⟨p9, hp9, h⟩ := bindS h
  refine ex_cons (ss_par 3 4 sc__law_parts_right.nd rfl rfl (by decide) rfl rfl (fun X hX => (sw_env (env' := env0 (defScope s__law_parts_right)) hX.sc _ _).trans rfl) (ea_cons (fun _ _ _ p q => pa_cons p q) (ee_callD (r := .dat (.int p6.1)) (d' := p6.2) hkm g__law_signed (Nat.le_of_ble_eq_true rfl) (by rfl) rfl (ea_cons (fun _ _ _ p q => pa_cons p q) (ee_mu 0 rfl (Or.inl rfl) rfl) (ea_cons (fun _ _ _ p q => pa_cons p q) (ee_mulO ee_int (ee_var 2 rfl (Or.inl rfl) rfl) ht5) ea_nil)) ⟨t5, rfl, p6, hp6, rfl, rfl⟩ (mu_mu (.inr tch0) (mu_dat mu_nil))) (ea_cons (fun _ _ _ p q => pa_cons p q) (ee_callD (r := .dat (.int p9.1)) (d' := p9.2) hkm g__law_signed (Nat.le_of_ble_eq_true rfl) (by rfl) rfl (ea_cons (fun _ _ _ p q => pa_cons p q) (ee_mu 0 rfl (Or.inl rfl) rfl) (ea_cons (fun _ _ _ p q => pa_cons p q) (ee_callD (r := .dat (.int p8.1)) (d' := p8.2) hkm g__law_one_of (Nat.le_of_ble_eq_true rfl) (by rfl) rfl (ea_cons (fun _ _ _ p q => pa_cons p q) (ee_mu 0 rfl (Or.inl rfl) rfl) (ea_cons (fun _ _ _ p q => pa_cons p q) (ee_lst (ea_cons (fun _ _ _ p q => pa_cons p q) (ee_var 2 rfl (Or.inl rfl) rfl) (ea_cons (fun _ _ _ p q => pa_cons p q) (ee_mulO ee_int (ee_var 2 rfl (Or.inl rfl) rfl) ht7) (ea_cons (fun _ _ _ p q => pa_cons p q) (ee_powC (i := 10) (j := 41) (k := 100000000000000000000000000000000000000000) ee_int ee_int (cpow_ok rfl) (by decide +kernel)) ea_nil))) rfl (lnOk 3 rfl (by decide))) ea_nil)) (one_of_A PyData.int ([(1 + p4.1), t7, 100000000000000000000000000000000000000000] : List Int) hp8) (mu_mu (.inr tch0) (mu_dat mu_nil))) ea_nil)) ⟨p8.1, rfl, p9, hp9, rfl, rfl⟩ (mu_mu (.inr tch0) (mu_dat mu_nil))) ea_nil)) rfl rfl) ?_
  show Ex _ _ [.mu k, .dat (.int (1 + p2.1)), .dat (.int (1 + p4.1)), .dat (.int p6.1), .dat (.int p9.1), .un, .un, .un, .un, .un, .un] _ _
  obtain ⟨t10, ht10, h⟩ := bindS h
  obtain ⟨p11, hp11, h⟩ := bindS h
  refine ex_cons (ss_par 5 6 sc__law_parts_right.nd rfl rfl (by decide) rfl rfl (fun X hX => (sw_env (env' := env0 (defScope s__law_parts_right)) hX.sc _ _).trans rfl) (ea_cons (fun _ _ _ p q => pa_cons p q) (ee_call g_floor_sum (Nat.le_of_ble_eq_true rfl) (by rfl) (ea_cons (fun _ _ _ p q => pa_cons p q) (ee_var 1 rfl (Or.inl rfl) rfl) (ea_cons (fun _ _ _ p q => pa_cons p q) (ee_var 3 rfl (Or.inl rfl) rfl) (ea_cons (fun _ _ _ p q => pa_cons p q) (ee_var 4 rfl (Or.inl rfl) rfl) (ea_cons (fun _ _ _ p q => pa_cons p q) (ee_var 2 rfl (Or.inl rfl) rfl) ea_nil)))) ⟨(1 + p2.1), p6.1, p9.1, (1 + p4.1), rfl, rfl, t10, ht10, rfl⟩ (mu_dat (mu_dat (mu_dat (mu_dat mu_nil))))) (ea_cons (fun _ _ _ p q => pa_cons p q) (ee_callD (r := .dat (.int p11.1)) (d' := p11.2) hkm g__law_signed (Nat.le_of_ble_eq_true rfl) (by rfl) rfl (ea_cons (fun _ _ _ p q => pa_cons p q) (ee_mu 0 rfl (Or.inl rfl) rfl) (ea_cons (fun _ _ _ p q => pa_cons p q) ee_int ea_nil)) ⟨99, rfl, p11, hp11, rfl, rfl⟩ (mu_mu (.inr tch0) (mu_dat mu_nil))) ea_nil)) rfl rfl) ?_
  show Ex _ _ [.mu k, .dat (.int (1 + p2.1)), .dat (.int (1 + p4.1)), .dat (.int p6.1), .dat (.int p9.1), .dat (.int t10), .dat (.int p11.1), .un, .un, .un, .un] _ _
  obtain ⟨t12, ht12, h⟩ := bindS h
  obtain ⟨t13, ht13, h⟩ := bindS h
  obtain ⟨t14, ht14, h⟩ := bindS h
  obtain ⟨t15, ht15, h⟩ := bindS h
  refine ex_cons (ss_set 7 sc__law_parts_right.nd rfl (Or.inl rfl) (.inl rfl) (fun _ => rfl) (ee_lst (ea_cons (fun _ _ _ p q => pa_cons p q) (ee_call g_floor_sum (Nat.le_of_ble_eq_true rfl) (by rfl) (ea_cons (fun _ _ _ p q => pa_cons p q) (ee_var 1 rfl (Or.inl rfl) rfl) (ea_cons (fun _ _ _ p q => pa_cons p q) (ee_add (ee_var 3 rfl (Or.inl rfl) rfl) (ee_mulO (ee_var 6 rfl (Or.inl rfl) rfl) (ee_var 2 rfl (Or.inl rfl) rfl) ht12)) (ea_cons (fun _ _ _ p q => pa_cons p q) (ee_var 4 rfl (Or.inl rfl) rfl) (ea_cons (fun _ _ _ p q => pa_cons p q) (ee_var 2 rfl (Or.inl rfl) rfl) ea_nil)))) ⟨(1 + p2.1), (p6.1 + t12), p9.1, (1 + p4.1), rfl, rfl, t13, ht13, rfl⟩ (mu_dat (mu_dat (mu_dat (mu_dat mu_nil))))) (ea_cons (fun _ _ _ p q => pa_cons p q) (ee_call g_floor_sum (Nat.le_of_ble_eq_true rfl) (by rfl) (ea_cons (fun _ _ _ p q => pa_cons p q) (ee_var 1 rfl (Or.inl rfl) rfl) (ea_cons (fun _ _ _ p q => pa_cons p q) (ee_var 3 rfl (Or.inl rfl) rfl) (ea_cons (fun _ _ _ p q => pa_cons p q) (ee_add (ee_var 4 rfl (Or.inl rfl) rfl) (ee_mulO (ee_var 6 rfl (Or.inl rfl) rfl) (ee_var 2 rfl (Or.inl rfl) rfl) ht14)) (ea_cons (fun _ _ _ p q => pa_cons p q) (ee_var 2 rfl (Or.inl rfl) rfl) ea_nil)))) ⟨(1 + p2.1), p6.1, (p9.1 + t14), (1 + p4.1), rfl, rfl, t15, ht15, rfl⟩ (mu_dat (mu_dat (mu_dat (mu_dat mu_nil))))) ea_nil)) rfl (lnOk 2 rfl (by decide))) rfl) ?_
  show Ex _ _ [.mu k, .dat (.int (1 + p2.1)), .dat (.int (1 + p4.1)), .dat (.int p6.1), .dat (.int p9.1), .dat (.int t10), .dat (.int p11.1), .dat (e_v2ii (t13, t15)), .un, .un, .un] _ _
  obtain ⟨t16, ht16, h⟩ := bindS h
  obtain ⟨t17, ht17, h⟩ := bindS h
  obtain ⟨t18, ht18, h⟩ := bindS h
  obtain ⟨t19, ht19, h⟩ := bindS h
  refine ex_cons (ss_set 8 sc__law_parts_right.nd rfl (Or.inl rfl) (.inl rfl) (fun _ => rfl) (ee_lst (ea_cons (fun _ _ _ p q => pa_cons p q) (ee_add (ee_var 5 rfl (Or.inl rfl) rfl) (ee_mulO (ee_var 6 rfl (Or.inl rfl) rfl) (ee_divO (ee_mulO (ee_var 1 rfl (Or.inl rfl) rfl) (ee_sub (ee_var 1 rfl (Or.inl rfl) rfl) ee_int) ht16) ee_int ht17) ht18)) (ea_cons (fun _ _ _ p q => pa_cons p q) (ee_add (ee_var 5 rfl (Or.inl rfl) rfl) (ee_mulO (ee_var 6 rfl (Or.inl rfl) rfl) (ee_var 1 rfl (Or.inl rfl) rfl) ht19)) ea_nil)) rfl (lnOk 2 rfl (by decide))) rfl) ?_
  show Ex _ _ [.mu k, .dat (.int (1 + p2.1)), .dat (.int (1 + p4.1)), .dat (.int p6.1), .dat (.int p9.1), .dat (.int t10), .dat (.int p11.1), .dat (e_v2ii (t13, t15)), .dat (e_v2ii ((t10 + t18), (t10 + t19))), .un, .un] _ _
  obtain ⟨t20, ht20, h⟩ := bindS h
  obtain ⟨t21, ht21, h⟩ := bindS h
  obtain ⟨t22, ht22, h⟩ := bindS h
  refine ex_cons (ss_set 7 sc__law_parts_right.nd rfl (Or.inl rfl) (.inl rfl) (fun _ => rfl) (ee_cat (ys := [t21, t22]) (xs := [t13, t15]) (zs := [t13, t15, t21, t22]) PyData.int (ee_var 7 rfl (Or.inl rfl) rfl) (ee_lst (ea_cons (fun _ _ _ p q => pa_cons p q) (ee_call g_floor_sum (Nat.le_of_ble_eq_true rfl) (by rfl) (ea_cons (fun _ _ _ p q => pa_cons p q) (ee_var 1 rfl (Or.inl rfl) rfl) (ea_cons (fun _ _ _ p q => pa_cons p q) (ee_sub ee_int (ee_var 3 rfl (Or.inl rfl) rfl)) (ea_cons (fun _ _ _ p q => pa_cons p q) (ee_add (ee_mulO (ee_var 3 rfl (Or.inl rfl) rfl) (ee_sub (ee_var 1 rfl (Or.inl rfl) rfl) ee_int) ht20) (ee_var 4 rfl (Or.inl rfl) rfl)) (ea_cons (fun _ _ _ p q => pa_cons p q) (ee_var 2 rfl (Or.inl rfl) rfl) ea_nil)))) ⟨(1 + p2.1), (0 - p6.1), (t20 + p9.1), (1 + p4.1), rfl, rfl, t21, ht21, rfl⟩ (mu_dat (mu_dat (mu_dat (mu_dat mu_nil))))) (ea_cons (fun _ _ _ p q => pa_cons p q) (ee_call g_floor_sum (Nat.le_of_ble_eq_true rfl) (by rfl) (ea_cons (fun _ _ _ p q => pa_cons p q) (ee_var 1 rfl (Or.inl rfl) rfl) (ea_cons (fun _ _ _ p q => pa_cons p q) (ee_sub ee_int (ee_var 3 rfl (Or.inl rfl) rfl)) (ea_cons (fun _ _ _ p q => pa_cons p q) (ee_sub ee_int (ee_var 4 rfl (Or.inl rfl) rfl)) (ea_cons (fun _ _ _ p q => pa_cons p q) (ee_var 2 rfl (Or.inl rfl) rfl) ea_nil)))) ⟨(1 + p2.1), (0 - p6.1), (0 - p9.1), (1 + p4.1), rfl, rfl, t22, ht22, rfl⟩ (mu_dat (mu_dat (mu_dat (mu_dat mu_nil))))) ea_nil)) rfl (lnOk 2 rfl (by decide))) rfl rfl (catO_ok 4 rfl rfl (by decide))) rfl) ?_
  show Ex _ _ [.mu k, .dat (.int (1 + p2.1)), .dat (.int (1 + p4.1)), .dat (.int p6.1), .dat (.int p9.1), .dat (.int t10), .dat (.int p11.1), .dat (e_v4iiii (t13, t15, t21, t22)), .dat (e_v2ii ((t10 + t18), (t10 + t19))), .un, .un] _ _
  obtain ⟨t23, ht23, h⟩ := bindS h
  refine ex_cons (ss_set 8 sc__law_parts_right.nd rfl (Or.inl rfl) (.inl rfl) (fun _ => rfl) (ee_cat (ys := [t10, (0 - t23)]) (xs := [(t10 + t18), (t10 + t19)]) (zs := [(t10 + t18), (t10 + t19), t10, (0 - t23)]) PyData.int (ee_var 8 rfl (Or.inl rfl) rfl) (ee_lst (ea_cons (fun _ _ _ p q => pa_cons p q) (ee_var 5 rfl (Or.inl rfl) rfl) (ea_cons (fun _ _ _ p q => pa_cons p q) (ee_sub ee_int (ee_call g_floor_sum (Nat.le_of_ble_eq_true rfl) (by rfl) (ea_cons (fun _ _ _ p q => pa_cons p q) (ee_var 1 rfl (Or.inl rfl) rfl) (ea_cons (fun _ _ _ p q => pa_cons p q) (ee_var 3 rfl (Or.inl rfl) rfl) (ea_cons (fun _ _ _ p q => pa_cons p q) (ee_sub (ee_add (ee_var 4 rfl (Or.inl rfl) rfl) (ee_var 2 rfl (Or.inl rfl) rfl)) ee_int) (ea_cons (fun _ _ _ p q => pa_cons p q) (ee_var 2 rfl (Or.inl rfl) rfl) ea_nil)))) ⟨(1 + p2.1), p6.1, ((p9.1 + (1 + p4.1)) - 1), (1 + p4.1), rfl, rfl, t23, ht23, rfl⟩ (mu_dat (mu_dat (mu_dat (mu_dat mu_nil)))))) ea_nil)) rfl (lnOk 2 rfl (by decide))) rfl rfl (catO_ok 4 rfl rfl (by decide))) rfl) ?_
  show Ex _ _ [.mu k, .dat (.int (1 + p2.1)), .dat (.int (1 + p4.1)), .dat (.int p6.1), .dat (.int p9.1), .dat (.int t10), .dat (.int p11.1), .dat (e_v4iiii (t13, t15, t21, t22)), .dat (e_v4iiii ((t10 + t18), (t10 + t19), t10, (0 - t23))), .un, .un] _ _
  obtain ⟨t24, ht24, h⟩ := bindS h
  obtain ⟨t25, ht25, h⟩ := bindS h
  obtain ⟨p26, hp26, h⟩ := bindS h
  obtain ⟨t27, ht27, h⟩ := bindS h
  obtain ⟨t28, ht28, h⟩ := bindS h
  obtain ⟨t29, ht29, h⟩ := bindS h
  refine ex_cons (ss_set 7 sc__law_parts_right.nd rfl (Or.inl rfl) (.inl rfl) (fun _ => rfl) (ee_cat (ys := [t28, t29]) (xs := [t13, t15, t21, t22]) (zs := [t13, t15, t21, t22, t28, t29]) PyData.int (ee_var 7 rfl (Or.inl rfl) rfl) (ee_lst (ea_cons (fun _ _ _ p q => pa_cons p q) (ee_call g_floor_sum (Nat.le_of_ble_eq_true rfl) (by rfl) (ea_cons (fun _ _ _ p q => pa_cons p q) (ee_var 1 rfl (Or.inl rfl) rfl) (ea_cons (fun _ _ _ p q => pa_cons p q) (ee_mulO ee_int (ee_var 3 rfl (Or.inl rfl) rfl) ht24) (ea_cons (fun _ _ _ p q => pa_cons p q) (ee_add (ee_mulO ee_int (ee_var 4 rfl (Or.inl rfl) rfl) ht25) (ee_callD (r := .dat (.int p26.1)) (d' := p26.2) hkm g__law_roll (Nat.le_of_ble_eq_true rfl) (by rfl) rfl (ea_cons (fun _ _ _ p q => pa_cons p q) (ee_mu 0 rfl (Or.inl rfl) rfl) (ea_cons (fun _ _ _ p q => pa_cons p q) ee_int ea_nil)) ⟨7, rfl, p26, hp26, rfl, rfl⟩ (mu_mu (.inr tch0) (mu_dat mu_nil)))) (ea_cons (fun _ _ _ p q => pa_cons p q) (ee_mulO ee_int (ee_var 2 rfl (Or.inl rfl) rfl) ht27) ea_nil)))) ⟨(1 + p2.1), t24, (t25 + p26.1), t27, rfl, rfl, t28, ht28, rfl⟩ (mu_dat (mu_dat (mu_dat (mu_dat mu_nil))))) (ea_cons (fun _ _ _ p q => pa_cons p q) (ee_call g_floor_sum (Nat.le_of_ble_eq_true rfl) (by rfl) (ea_cons (fun _ _ _ p q => pa_cons p q) (ee_var 1 rfl (Or.inl rfl) rfl) (ea_cons (fun _ _ _ p q => pa_cons p q) (ee_var 3 rfl (Or.inl rfl) rfl) (ea_cons (fun _ _ _ p q => pa_cons p q) (ee_var 4 rfl (Or.inl rfl) rfl) (ea_cons (fun _ _ _ p q => pa_cons p q) ee_int ea_nil)))) ⟨(1 + p2.1), p6.1, p9.1, 1, rfl, rfl, t29, ht29, rfl⟩ (mu_dat (mu_dat (mu_dat (mu_dat mu_nil))))) ea_nil)) rfl (lnOk 2 rfl (by decide))) rfl rfl (catO_ok 6 rfl rfl (by decide))) rfl) ?_
  show Ex _ _ [.mu k, .dat (.int (1 + p2.1)), .dat (.int (1 + p4.1)), .dat (.int p6.1), .dat (.int p9.1), .dat (.int t10), .dat (.int p11.1), .dat (e_v6iiiiii (t13, t15, t21, t22, t28, t29)), .dat (e_v4iiii ((t10 + t18), (t10 + t19), t10, (0 - t23))), .un, .un] _ _
  obtain ⟨t30, ht30, h⟩ := bindS h
  obtain ⟨t31, ht31, h⟩ := bindS h
  obtain ⟨t32, ht32, h⟩ := bindS h
  obtain ⟨t33, ht33, h⟩ := bindS h
  refine ex_cons (ss_set 8 sc__law_parts_right.nd rfl (Or.inl rfl) (.inl rfl) (fun _ => rfl) (ee_cat (ys := [t10, (t32 + t33)]) (xs := [(t10 + t18), (t10 + t19), t10, (0 - t23)]) (zs := [(t10 + t18), (t10 + t19), t10, (0 - t23), t10, (t32 + t33)]) PyData.int (ee_var 8 rfl (Or.inl rfl) rfl) (ee_lst (ea_cons (fun _ _ _ p q => pa_cons p q) (ee_var 5 rfl (Or.inl rfl) rfl) (ea_cons (fun _ _ _ p q => pa_cons p q) (ee_add (ee_mulO (ee_var 3 rfl (Or.inl rfl) rfl) (ee_divO (ee_mulO (ee_var 1 rfl (Or.inl rfl) rfl) (ee_sub (ee_var 1 rfl (Or.inl rfl) rfl) ee_int) ht30) ee_int ht31) ht32) (ee_mulO (ee_var 4 rfl (Or.inl rfl) rfl) (ee_var 1 rfl (Or.inl rfl) rfl) ht33)) ea_nil)) rfl (lnOk 2 rfl (by decide))) rfl rfl (catO_ok 6 rfl rfl (by decide))) rfl) ?_
  show Ex _ _ [.mu k, .dat (.int (1 + p2.1)), .dat (.int (1 + p4.1)), .dat (.int p6.1), .dat (.int p9.1), .dat (.int t10), .dat (.int p11.1), .dat (e_v6iiiiii (t13, t15, t21, t22, t28, t29)), .dat (e_v6iiiiii ((t10 + t18), (t10 + t19), t10, (0 - t23), t10, (t32 + t33))), .un, .un] _ _
  obtain ⟨t34, ht34, h⟩ := bindS h
  rcases boolCases (!t34) with hc35 | hc35
  · have h := iteT' hc35 h
    refine ex_ifT (et_neO (nobehind _ (by decide) (by decide)) (ee_var 7 rfl (Or.inl rfl) rfl) (ee_var 8 rfl (Or.inl rfl) rfl) rfl rfl ht34) hc35 ?_
    obtain rfl := someS h
    exact ex_out (ss_ret ee_bool) rfl fin_dat
  · have h := iteF' hc35 h
    refine ex_ifF0 (et_neO (nobehind _ (by decide) (by decide)) (ee_var 7 rfl (Or.inl rfl) rfl) (ee_var 8 rfl (Or.inl rfl) rfl) rfl rfl ht34) hc35 ?_
    obtain ⟨p36, hp36, h⟩ := bindS h
    refine ex_cons (ss_set 9 sc__law_parts_right.nd rfl (Or.inl rfl) (.inl rfl) (fun _ => rfl) (ee_callD (r := .dat (.int p36.1)) (d' := p36.2) hkm g__law_great (Nat.le_of_ble_eq_true rfl) (by rfl) rfl (ea_cons (fun _ _ _ p q => pa_cons p q) (ee_mu 0 rfl (Or.inl rfl) rfl) (ea_cons (fun _ _ _ p q => pa_cons p q) (ee_var 1 rfl (Or.inl rfl) rfl) ea_nil)) ⟨(1 + p2.1), rfl, p36, hp36, rfl, rfl⟩ (mu_mu (.inr tch0) (mu_dat mu_nil))) rfl) ?_
    show Ex _ _ [.mu k, .dat (.int (1 + p2.1)), .dat (.int (1 + p4.1)), .dat (.int p6.1), .dat (.int p9.1), .dat (.int t10), .dat (.int p11.1), .dat (e_v6iiiiii (t13, t15, t21, t22, t28, t29)), .dat (e_v6iiiiii ((t10 + t18), (t10 + t19), t10, (0 - t23), t10, (t32 + t33))), .dat (.int p36.1), .un] _ _
    obtain ⟨t41, ht41, h⟩ := bindS h
    rcases boolCases t41 with hc42 | hc42
    · have h := iteT' hc42 h
      refine ex_ifT (et_w (ew_andO (et_gt (nobehind _ (by decide) (by decide)) (ee_var 9 rfl (Or.inl rfl) rfl) ee_int) ht41 (fun _ g40 => by obtain ⟨t37, ht37, g40⟩ := bindS g40; obtain ⟨t38, ht38, g40⟩ := bindS g40; obtain ⟨t39, ht39, g40⟩ := bindS g40; obtain rfl := someS g40; exact (ew_and1 (et_neI (nobehind _ (by decide) (by decide)) (ee_add (ee_call g_floor_sum (Nat.le_of_ble_eq_true rfl) (by rfl) (ea_cons (fun _ _ _ p q => pa_cons p q) (ee_var 9 rfl (Or.inl rfl) rfl) (ea_cons (fun _ _ _ p q => pa_cons p q) (ee_var 3 rfl (Or.inl rfl) rfl) (ea_cons (fun _ _ _ p q => pa_cons p q) (ee_var 4 rfl (Or.inl rfl) rfl) (ea_cons (fun _ _ _ p q => pa_cons p q) (ee_var 2 rfl (Or.inl rfl) rfl) ea_nil)))) ⟨p36.1, p6.1, p9.1, (1 + p4.1), rfl, rfl, t37, ht37, rfl⟩ (mu_dat (mu_dat (mu_dat (mu_dat mu_nil))))) (ee_call g_floor_sum (Nat.le_of_ble_eq_true rfl) (by rfl) (ea_cons (fun _ _ _ p q => pa_cons p q) (ee_sub (ee_var 1 rfl (Or.inl rfl) rfl) (ee_var 9 rfl (Or.inl rfl) rfl)) (ea_cons (fun _ _ _ p q => pa_cons p q) (ee_var 3 rfl (Or.inl rfl) rfl) (ea_cons (fun _ _ _ p q => pa_cons p q) (ee_add (ee_var 4 rfl (Or.inl rfl) rfl) (ee_mulO (ee_var 3 rfl (Or.inl rfl) rfl) (ee_var 9 rfl (Or.inl rfl) rfl) ht38)) (ea_cons (fun _ _ _ p q => pa_cons p q) (ee_var 2 rfl (Or.inl rfl) rfl) ea_nil)))) ⟨((1 + p2.1) - p36.1), p6.1, (p9.1 + t38), (1 + p4.1), rfl, rfl, t39, ht39, rfl⟩ (mu_dat (mu_dat (mu_dat (mu_dat mu_nil)))))) (ee_var 5 rfl (Or.inl rfl) rfl)))))) hc42 ?_
      obtain rfl := someS h
      exact ex_out (ss_ret ee_bool) rfl fin_dat
    · have h := iteF' hc42 h
      refine ex_ifF0 (et_w (ew_andO (et_gt (nobehind _ (by decide) (by decide)) (ee_var 9 rfl (Or.inl rfl) rfl) ee_int) ht41 (fun _ g40 => by obtain ⟨t37, ht37, g40⟩ := bindS g40; obtain ⟨t38, ht38, g40⟩ := bindS g40; obtain ⟨t39, ht39, g40⟩ := bindS g40; obtain rfl := someS g40; exact (ew_and1 (et_neI (nobehind _ (by decide) (by decide)) (ee_add (ee_call g_floor_sum (Nat.le_of_ble_eq_true rfl) (by rfl) (ea_cons (fun _ _ _ p q => pa_cons p q) (ee_var 9 rfl (Or.inl rfl) rfl) (ea_cons (fun _ _ _ p q => pa_cons p q) (ee_var 3 rfl (Or.inl rfl) rfl) (ea_cons (fun _ _ _ p q => pa_cons p q) (ee_var 4 rfl (Or.inl rfl) rfl) (ea_cons (fun _ _ _ p q => pa_cons p q) (ee_var 2 rfl (Or.inl rfl) rfl) ea_nil)))) ⟨p36.1, p6.1, p9.1, (1 + p4.1), rfl, rfl, t37, ht37, rfl⟩ (mu_dat (mu_dat (mu_dat (mu_dat mu_nil))))) (ee_call g_floor_sum (Nat.le_of_ble_eq_true rfl) (by rfl) (ea_cons (fun _ _ _ p q => pa_cons p q) (ee_sub (ee_var 1 rfl (Or.inl rfl) rfl) (ee_var 9 rfl (Or.inl rfl) rfl)) (ea_cons (fun _ _ _ p q => pa_cons p q) (ee_var 3 rfl (Or.inl rfl) rfl) (ea_cons (fun _ _ _ p q => pa_cons p q) (ee_add (ee_var 4 rfl (Or.inl rfl) rfl) (ee_mulO (ee_var 3 rfl (Or.inl rfl) rfl) (ee_var 9 rfl (Or.inl rfl) rfl) ht38)) (ea_cons (fun _ _ _ p q => pa_cons p q) (ee_var 2 rfl (Or.inl rfl) rfl) ea_nil)))) ⟨((1 + p2.1) - p36.1), p6.1, (p9.1 + t38), (1 + p4.1), rfl, rfl, t39, ht39, rfl⟩ (mu_dat (mu_dat (mu_dat (mu_dat mu_nil)))))) (ee_var 5 rfl (Or.inl rfl) rfl)))))) hc42 ?_
      obtain ⟨t43, ht43, h⟩ := bindS h
      obtain ⟨t44, ht44, h⟩ := bindS h
      refine ex_cons (ss_par 3 4 sc__law_parts_right.nd rfl rfl (by decide) rfl rfl (fun X hX => (sw_env (env' := env0 (defScope s__law_parts_right)) hX.sc _ _).trans rfl) (ea_cons (fun _ _ _ p q => pa_cons p q) (ee_modO (ee_var 3 rfl (Or.inl rfl) rfl) (ee_var 2 rfl (Or.inl rfl) rfl) ht43) (ea_cons (fun _ _ _ p q => pa_cons p q) (ee_modO (ee_var 4 rfl (Or.inl rfl) rfl) (ee_var 2 rfl (Or.inl rfl) rfl) ht44) ea_nil)) rfl rfl) ?_
      show Ex _ _ [.mu k, .dat (.int (1 + p2.1)), .dat (.int (1 + p4.1)), .dat (.int t43), .dat (.int t44), .dat (.int t10), .dat (.int p11.1), .dat (e_v6iiiiii (t13, t15, t21, t22, t28, t29)), .dat (e_v6iiiiii ((t10 + t18), (t10 + t19), t10, (0 - t23), t10, (t32 + t33))), .dat (.int p36.1), .un] _ _
      obtain ⟨t45, ht45, h⟩ := bindS h
      obtain ⟨t46, ht46, h⟩ := bindS h
      refine ex_cons (ss_set 10 sc__law_parts_right.nd rfl (Or.inl rfl) (.inl rfl) (fun _ => rfl) (ee_divO (ee_add (ee_mulO (ee_var 3 rfl (Or.inl rfl) rfl) (ee_sub (ee_var 1 rfl (Or.inl rfl) rfl) ee_int) ht45) (ee_var 4 rfl (Or.inl rfl) rfl)) (ee_var 2 rfl (Or.inl rfl) rfl) ht46) rfl) ?_
      show Ex _ _ [.mu k, .dat (.int (1 + p2.1)), .dat (.int (1 + p4.1)), .dat (.int t43), .dat (.int t44), .dat (.int t10), .dat (.int p11.1), .dat (e_v6iiiiii (t13, t15, t21, t22, t28, t29)), .dat (e_v6iiiiii ((t10 + t18), (t10 + t19), t10, (0 - t23), t10, (t32 + t33))), .dat (.int p36.1), .dat (.int t46)] _ _
      obtain ⟨t47, ht47, h⟩ := bindS h
      refine ex_cons (ss_set 5 sc__law_parts_right.nd rfl (Or.inl rfl) (.inl rfl) (fun _ => rfl) (ee_call g_floor_sum (Nat.le_of_ble_eq_true rfl) (by rfl) (ea_cons (fun _ _ _ p q => pa_cons p q) (ee_var 1 rfl (Or.inl rfl) rfl) (ea_cons (fun _ _ _ p q => pa_cons p q) (ee_var 3 rfl (Or.inl rfl) rfl) (ea_cons (fun _ _ _ p q => pa_cons p q) (ee_var 4 rfl (Or.inl rfl) rfl) (ea_cons (fun _ _ _ p q => pa_cons p q) (ee_var 2 rfl (Or.inl rfl) rfl) ea_nil)))) ⟨(1 + p2.1), t43, t44, (1 + p4.1), rfl, rfl, t47, ht47, rfl⟩ (mu_dat (mu_dat (mu_dat (mu_dat mu_nil))))) rfl) ?_
      show Ex _ _ [.mu k, .dat (.int (1 + p2.1)), .dat (.int (1 + p4.1)), .dat (.int t43), .dat (.int t44), .dat (.int t47), .dat (.int p11.1), .dat (e_v6iiiiii (t13, t15, t21, t22, t28, t29)), .dat (e_v6iiiiii ((t10 + t18), (t10 + t19), t10, (0 - t23), t10, (t32 + t33))), .dat (.int p36.1), .dat (.int t46)] _ _
      rcases boolCases ((decide (t43 = 0)) || (decide (t46 = 0))) with hc48 | hc48
      · have h := iteT' hc48 h
        refine ex_ifT (et_w (ew_orV (et_eqI (nobehind _ (by decide) (by decide)) (ee_var 3 rfl (Or.inl rfl) rfl) ee_int) (fun _ => (ew_or1 (et_eqI (nobehind _ (by decide) (by decide)) (ee_var 10 rfl (Or.inl rfl) rfl) ee_int))))) hc48 ?_
        obtain rfl := someS h
        exact ex_out (ss_ret (ee_eqI (nobehind _ (by decide) (by decide)) (ee_var 5 rfl (Or.inl rfl) rfl) ee_int)) rfl fin_dat
      · have h := iteF' hc48 h
        refine ex_ifF0 (et_w (ew_orV (et_eqI (nobehind _ (by decide) (by decide)) (ee_var 3 rfl (Or.inl rfl) rfl) ee_int) (fun _ => (ew_or1 (et_eqI (nobehind _ (by decide) (by decide)) (ee_var 10 rfl (Or.inl rfl) rfl) ee_int))))) hc48 ?_
        obtain ⟨t51, ht51, h⟩ := bindS h
        obtain rfl := someS h
        exact ex_out (ss_ret (ee_orO (ee_gt (nobehind _ (by decide) (by decide)) (ee_var 10 rfl (Or.inl rfl) rfl) (ee_powC (i := 10) (j := 9) (k := 1000000000) ee_int ee_int (cpow_ok rfl) (by decide +kernel))) ht51 (fun _ g52 => by obtain ⟨t49, ht49, g52⟩ := bindS g52; obtain ⟨t50, ht50, g52⟩ := bindS g52; obtain rfl := someS g52; exact (ee_one (ee_eqI (nobehind _ (by decide) (by decide)) (ee_var 5 rfl (Or.inl rfl) rfl) (ee_sub (ee_mulO (ee_var 1 rfl (Or.inl rfl) rfl) (ee_var 10 rfl (Or.inl rfl) rfl) ht49) (ee_call g_floor_sum (Nat.le_of_ble_eq_true rfl) (by rfl) (ea_cons (fun _ _ _ p q => pa_cons p q) (ee_var 10 rfl (Or.inl rfl) rfl) (ea_cons (fun _ _ _ p q => pa_cons p q) (ee_var 2 rfl (Or.inl rfl) rfl) (ea_cons (fun _ _ _ p q => pa_cons p q) (ee_sub (ee_add (ee_sub (ee_var 2 rfl (Or.inl rfl) rfl) (ee_var 4 rfl (Or.inl rfl) rfl)) (ee_var 3 rfl (Or.inl rfl) rfl)) ee_int) (ea_cons (fun _ _ _ p q => pa_cons p q) (ee_var 3 rfl (Or.inl rfl) rfl) ea_nil)))) ⟨t46, (1 + p4.1), ((((1 + p4.1) - t44) + t43) - 1), t43, rfl, rfl, t50, ht50, rfl⟩ (mu_dat (mu_dat (mu_dat (mu_dat mu_nil))))))))))) rfl fin_dat

def s__law_common : Stmt := topS 64
def nm__law_common : List Str := ["one", "far"]
theorem sc__law_common : FnScope nm__law_common ["one", "far"] (defScope s__law_common) := ⟨rfl, rfl, rfl, by decide +kernel, rfl, by decide +kernel, by decide +kernel⟩
def m__law_common (v_one : Int) (v_far : Int) : Option (Int) := (whileS (fun s1 : Int × Int => some (decide (s1.2 ≠ 0))) (fun s1 : Int × Int => (modO s1.1 s1.2).bind fun t5 => some (s1.2, t5)) FUEL ((v_one.natAbs : Int), (v_far.natAbs : Int))).bind fun s3 => some s3.1
def R__law_common : Rel := fun rs ms r ms2 => ∃ (v_one : Int) (v_far : Int), rs = [.dat (.int v_one), .dat (.int v_far)] ∧ ms2 = ms ∧ ∃ v : Int, m__law_common v_one v_far = some v ∧ r = .dat (.int v)
theorem kn__law_common (T : Txt K mg) {f : Addr} {fd : FuncData} (Fu : Fun K "_law_common" "_law_common" s__law_common f fd) (hmf : mg "_law_common" = some (.ref f))  : Kn P w K mg base 1 "_law_common" R__law_common := by
  have hb := Fu.binds (ps := ["one", "far"]) fun _ _ _ _ _ _ us hl => match us, hl with | [_, _], _ => rfl
  refine kn_of (kk := 0) Fu sc__law_common hb hmf rfl (by decide) (by rintro rs ms0 r ms ⟨v_one, v_far, rfl, rfl, v, h, rfl⟩; exact ⟨rfl, rfl⟩) ?_
  rintro rs ms0 r ms ⟨v_one, v_far, rfl, rfl, v, h, rfl⟩
  show Ex _ _ [.dat (.int v_one), .dat (.int v_far)] ms (fun o => Fin ms o (.dat (.int v)))
  unfold m__law_common at h
  show Ex _ _ [.dat (.int v_one), .dat (.int v_far)] _ _
  refine ex_cons (ss_par 0 1 sc__law_common.nd rfl rfl (by decide) rfl rfl (fun X hX => (sw_env (env' := env0 (defScope s__law_common)) hX.sc _ _).trans rfl) (ea_cons (fun _ _ _ p q => pa_cons p q) (ee_abs T.abs (by rfl) (ea_cons (fun _ _ _ p q => pa_cons p q) (ee_var 0 rfl (Or.inl rfl) rfl) ea_nil)) (ea_cons (fun _ _ _ p q => pa_cons p q) (ee_abs T.abs (by rfl) (ea_cons (fun _ _ _ p q => pa_cons p q) (ee_var 1 rfl (Or.inl rfl) rfl) ea_nil)) ea_nil)) rfl rfl) ?_
  show Ex _ _ [.dat (.int (v_one.natAbs : Int)), .dat (.int (v_far.natAbs : Int))] _ _
  obtain ⟨s3, hs3, h⟩ := bindS h
  refine ex_cons (ss_whileS (s0 := ((v_one.natAbs : Int), (v_far.natAbs : Int))) _ _ (fun s1 : Int × Int => [.dat (.int s1.1), .dat (.int s1.2)]) (fun s1 : Int × Int => ms) (ms.length) _ rfl (fun _ => rfl) (.cons .dat (.cons .dat .nil))
    (fun s1 t4 h => by
      obtain rfl := someS h
      exact (et_neI (nobehind _ (by decide) (by decide)) (ee_var 1 rfl (Or.inl rfl) rfl) ee_int)
    ) (fun s1 s2 _ h => by
      show Ex _ _ [.dat (.int s1.1), .dat (.int s1.2)] _ _
      obtain ⟨t5, ht5, h⟩ := bindS h
      refine ex_cons (ss_par 0 1 sc__law_common.nd rfl rfl (by decide) rfl rfl (fun X hX => (sw_env (env' := env0 (defScope s__law_common)) hX.sc _ _).trans rfl) (ea_cons (fun _ _ _ p q => pa_cons p q) (ee_var 1 rfl (Or.inl rfl) rfl) (ea_cons (fun _ _ _ p q => pa_cons p q) (ee_modO (ee_var 0 rfl (Or.inl rfl) rfl) (ee_var 1 rfl (Or.inl rfl) rfl) ht5) ea_nil)) rfl rfl) ?_
      obtain rfl := someS h
      exact ex_nil (turn_go (.cons .dat (.cons .dat .nil)))
    ) hs3) ?_
  show Ex _ _ [.dat (.int s3.1), .dat (.int s3.2)] _ _
  obtain rfl := someS h
  exact ex_out (ss_ret (ee_var 0 rfl (Or.inl rfl) rfl)) rfl fin_dat

def s__law_rests_right : Stmt := topS 68
def nm__law_rests_right : List Str := ["dice", "below", "above", "more", "part", "shared", "first", "due"]
theorem sc__law_rests_right : FnScope nm__law_rests_right ["dice"] (defScope s__law_rests_right) := ⟨rfl, rfl, rfl, by decide +kernel, rfl, by decide +kernel, by decide +kernel⟩
def m__law_rests_right (d : Dice)  : Option (Bool × Dice) := (m__law_one_of d ([12, 997, 1000000000] : List Int)).bind fun p1 => (m__law_great p1.2 p1.1).bind fun p2 => (m__law_signed p2.2 1000000000000).bind fun p3 => (m__law_signed p3.2 1000000000000).bind fun p4 => (m__law_great p4.2 ((1 + p2.1) + 1)).bind fun p5 => (m__law_common p3.1 (1 + p2.1)).bind fun t6 => (modO p4.1 t6).bind fun t7 => (divO (((p5.1 - t7) + t6) - 1) t6).bind fun t8 => (mulO t6 (max 0 t8)).bind fun t9 => (m_floor_sum (1 + p2.1) p3.1 p4.1 (1 + p2.1)).bind fun t10 => (m_floor_sum (1 + p2.1) p3.1 (p4.1 - p5.1) (1 + p2.1)).bind fun t11 => some ((decide ((t10 - t11) = t9)), p5.2)
def A__law_rests_right : List Rs → Dice → Rs → Dice → Prop := fun args d r d2 => args = [] ∧ ∃ v : Bool × Dice, m__law_rests_right d = some v ∧ r = .dat (.bool v.1) ∧ d2 = v.2
abbrev R__law_rests_right : Rel := RelD 1 A__law_rests_right
theorem kn__law_rests_right (T : Txt K mg) {f : Addr} {fd : FuncData} (Fu : Fun K "_law_rests_right" "_law_rests_right" s__law_rests_right f fd) (hmf : mg "_law_rests_right" = some (.ref f)) (g__law_great : Kn P w K mg base 2 "_law_great" R__law_great) (g__law_one_of : Kn P w K mg base 2 "_law_one_of" R__law_one_of) (g__law_signed : Kn P w K mg base 3 "_law_signed" R__law_signed) (g__law_common : Kn P w K mg base 1 "_law_common" R__law_common) (g_floor_sum : Kn P w K mg base 4 "floor_sum" R_floor_sum) : Kn P w K mg base 5 "_law_rests_right" R__law_rests_right := by
  have hb := Fu.binds (ps := ["dice"]) fun _ _ _ _ _ _ us hl => match us, hl with | [_], _ => rfl
  refine kn_of (kk := 4) Fu sc__law_rests_right hb hmf rfl (by decide) relD_len ?_
  rintro rs ms r ms' ⟨mc, k, d, d', tl, args, hkm, rfl, hnn, rfl, rfl, rfl, v, h, rfl, rfl⟩
  show Ex _ _ [.mu k, .un, .un, .un, .un, .un, .un, .un] (MD mc k d ++ tl) (fun o => Fin (MD mc k v.2 ++ tl) o (.dat (.bool v.1)))
  unfold m__law_rests_right at h
  show Ex _ _ [.mu k, .un, .un, .un, .un, .un, .un, .un] _ _
  obtain ⟨p1, hp1, h⟩ := bindS h
  obtain ⟨p2, hp2, h⟩ := bindS h
  refine ex_cons (ss_set 1 sc__law_rests_right.nd rfl (Or.inl rfl) (.inl rfl) (fun _ => rfl) (ee_add ee_int (ee_callD (r := .dat (.int p2.1)) (d' := p2.2) hkm g__law_great (Nat.le_of_ble_eq_true rfl) (by rfl) rfl (ea_cons (fun _ _ _ p q => pa_cons p q) (ee_mu 0 rfl (Or.inl rfl) rfl) (ea_cons (fun _ _ _ p q => pa_cons p q) (ee_callD (r := .dat (.int p1.1)) (d' := p1.2) hkm g__law_one_of (Nat.le_of_ble_eq_true rfl) (by rfl) rfl (ea_cons (fun _ _ _ p q => pa_cons p q) (ee_mu 0 rfl (Or.inl rfl) rfl) (ea_cons (fun _ _ _ p q => pa_cons p q) (ee_lst (ea_cons (fun _ _ _ p q => pa_cons p q) ee_int (ea_cons (fun _ _ _ p q => pa_cons p q) ee_int (ea_cons (fun _ _ _ p q => pa_cons p q) (ee_powC (i := 10) (j := 9) (k := 1000000000) ee_int ee_int (cpow_ok rfl) (by decide +kernel)) ea_nil))) rfl (lnOk 3 rfl (by decide))) ea_nil)) (one_of_A PyData.int ([12, 997, 1000000000] : List Int) hp1) (mu_mu (.inr tch0) (mu_dat mu_nil))) ea_nil)) ⟨p1.1, rfl, p2, hp2, rfl, rfl⟩ (mu_mu (.inr tch0) (mu_dat mu_nil)))) rfl) ?_
  show Ex _ _ [.mu k, .dat (.int (1 + p2.1)), .un, .un, .un, .un, .un, .un] _ _
  obtain ⟨p3, hp3, h⟩ := bindS h
  obtain ⟨p4, hp4, h⟩ := bindS h
  obtain ⟨p5, hp5, h⟩ := bindS h
  refine ex_cons (ss_par3 2 3 4 sc__law_rests_right.nd rfl rfl rfl (by decide) (by decide) (by decide) rfl rfl rfl (fun X hX => (sw_env (env' := env0 (defScope s__law_rests_right)) hX.sc _ _).trans rfl) (ea_cons (fun _ _ _ p q => pa_cons p q) (ee_callD (r := .dat (.int p3.1)) (d' := p3.2) hkm g__law_signed (Nat.le_of_ble_eq_true rfl) (by rfl) rfl (ea_cons (fun _ _ _ p q => pa_cons p q) (ee_mu 0 rfl (Or.inl rfl) rfl) (ea_cons (fun _ _ _ p q => pa_cons p q) (ee_powC (i := 10) (j := 12) (k := 1000000000000) ee_int ee_int (cpow_ok rfl) (by decide +kernel)) ea_nil)) ⟨1000000000000, rfl, p3, hp3, rfl, rfl⟩ (mu_mu (.inr tch0) (mu_dat mu_nil))) (ea_cons (fun _ _ _ p q => pa_cons p q) (ee_callD (r := .dat (.int p4.1)) (d' := p4.2) hkm g__law_signed (Nat.le_of_ble_eq_true rfl) (by rfl) rfl (ea_cons (fun _ _ _ p q => pa_cons p q) (ee_mu 0 rfl (Or.inl rfl) rfl) (ea_cons (fun _ _ _ p q => pa_cons p q) (ee_powC (i := 10) (j := 12) (k := 1000000000000) ee_int ee_int (cpow_ok rfl) (by decide +kernel)) ea_nil)) ⟨1000000000000, rfl, p4, hp4, rfl, rfl⟩ (mu_mu (.inr tch0) (mu_dat mu_nil))) (ea_cons (fun _ _ _ p q => pa_cons p q) (ee_callD (r := .dat (.int p5.1)) (d' := p5.2) hkm g__law_great (Nat.le_of_ble_eq_true rfl) (by rfl) rfl (ea_cons (fun _ _ _ p q => pa_cons p q) (ee_mu 0 rfl (Or.inl rfl) rfl) (ea_cons (fun _ _ _ p q => pa_cons p q) (ee_add (ee_var 1 rfl (Or.inl rfl) rfl) ee_int) ea_nil)) ⟨((1 + p2.1) + 1), rfl, p5, hp5, rfl, rfl⟩ (mu_mu (.inr tch0) (mu_dat mu_nil))) ea_nil))) rfl rfl rfl) ?_
  show Ex _ _ [.mu k, .dat (.int (1 + p2.1)), .dat (.int p3.1), .dat (.int p4.1), .dat (.int p5.1), .un, .un, .un] _ _
  obtain ⟨t6, ht6, h⟩ := bindS h
  refine ex_cons (ss_set 5 sc__law_rests_right.nd rfl (Or.inl rfl) (.inl rfl) (fun _ => rfl) (ee_call g__law_common (Nat.le_of_ble_eq_true rfl) (by rfl) (ea_cons (fun _ _ _ p q => pa_cons p q) (ee_var 2 rfl (Or.inl rfl) rfl) (ea_cons (fun _ _ _ p q => pa_cons p q) (ee_var 1 rfl (Or.inl rfl) rfl) ea_nil)) ⟨p3.1, (1 + p2.1), rfl, rfl, t6, ht6, rfl⟩ (mu_dat (mu_dat mu_nil))) rfl) ?_
  show Ex _ _ [.mu k, .dat (.int (1 + p2.1)), .dat (.int p3.1), .dat (.int p4.1), .dat (.int p5.1), .dat (.int t6), .un, .un] _ _
  obtain ⟨t7, ht7, h⟩ := bindS h
  refine ex_cons (ss_set 6 sc__law_rests_right.nd rfl (Or.inl rfl) (.inl rfl) (fun _ => rfl) (ee_modO (ee_var 3 rfl (Or.inl rfl) rfl) (ee_var 5 rfl (Or.inl rfl) rfl) ht7) rfl) ?_
  show Ex _ _ [.mu k, .dat (.int (1 + p2.1)), .dat (.int p3.1), .dat (.int p4.1), .dat (.int p5.1), .dat (.int t6), .dat (.int t7), .un] _ _
  obtain ⟨t8, ht8, h⟩ := bindS h
  obtain ⟨t9, ht9, h⟩ := bindS h
  refine ex_cons (ss_set 7 sc__law_rests_right.nd rfl (Or.inl rfl) (.inl rfl) (fun _ => rfl) (ee_mulO (ee_var 5 rfl (Or.inl rfl) rfl) (ee_max2 T.max (by rfl) (ea_cons (fun _ _ _ p q => pa_cons p q) ee_int (ea_cons (fun _ _ _ p q => pa_cons p q) (ee_divO (ee_sub (ee_add (ee_sub (ee_var 4 rfl (Or.inl rfl) rfl) (ee_var 6 rfl (Or.inl rfl) rfl)) (ee_var 5 rfl (Or.inl rfl) rfl)) ee_int) (ee_var 5 rfl (Or.inl rfl) rfl) ht8) ea_nil))) ht9) rfl) ?_
  show Ex _ _ [.mu k, .dat (.int (1 + p2.1)), .dat (.int p3.1), .dat (.int p4.1), .dat (.int p5.1), .dat (.int t6), .dat (.int t7), .dat (.int t9)] _ _
  obtain ⟨t10, ht10, h⟩ := bindS h
  obtain ⟨t11, ht11, h⟩ := bindS h
  obtain rfl := someS h
  exact ex_out (ss_ret (ee_eqI (nobehind _ (by decide) (by decide)) (ee_sub (ee_call g_floor_sum (Nat.le_of_ble_eq_true rfl) (by rfl) (ea_cons (fun _ _ _ p q => pa_cons p q) (ee_var 1 rfl (Or.inl rfl) rfl) (ea_cons (fun _ _ _ p q => pa_cons p q) (ee_var 2 rfl (Or.inl rfl) rfl) (ea_cons (fun _ _ _ p q => pa_cons p q) (ee_var 3 rfl (Or.inl rfl) rfl) (ea_cons (fun _ _ _ p q => pa_cons p q) (ee_var 1 rfl (Or.inl rfl) rfl) ea_nil)))) ⟨(1 + p2.1), p3.1, p4.1, (1 + p2.1), rfl, rfl, t10, ht10, rfl⟩ (mu_dat (mu_dat (mu_dat (mu_dat mu_nil))))) (ee_call g_floor_sum (Nat.le_of_ble_eq_true rfl) (by rfl) (ea_cons (fun _ _ _ p q => pa_cons p q) (ee_var 1 rfl (Or.inl rfl) rfl) (ea_cons (fun _ _ _ p q => pa_cons p q) (ee_var 2 rfl (Or.inl rfl) rfl) (ea_cons (fun _ _ _ p q => pa_cons p q) (ee_sub (ee_var 3 rfl (Or.inl rfl) rfl) (ee_var 4 rfl (Or.inl rfl) rfl)) (ea_cons (fun _ _ _ p q => pa_cons p q) (ee_var 1 rfl (Or.inl rfl) rfl) ea_nil)))) ⟨(1 + p2.1), p3.1, (p4.1 - p5.1), (1 + p2.1), rfl, rfl, t11, ht11, rfl⟩ (mu_dat (mu_dat (mu_dat (mu_dat mu_nil)))))) (ee_var 7 rfl (Or.inl rfl) rfl))) rfl fin_dat

def s_common : Stmt := topS 10
def nm_common : List Str := ["one", "far"]
theorem sc_common : FnScope nm_common ["one", "far"] (defScope s_common) := ⟨rfl, rfl, rfl, by decide +kernel, rfl, by decide +kernel, by decide +kernel⟩
def m_common (v_one : Int) (v_far : Int) : Option (Int) := (whileS (fun s1 : Int × Int => some (decide (0 < s1.2))) (fun s1 : Int × Int => (modO s1.1 s1.2).bind fun t5 => some (s1.2, t5)) FUEL ((v_one.natAbs : Int), (v_far.natAbs : Int))).bind fun s3 => some s3.1
def R_common : Rel := fun rs ms r ms2 => ∃ (v_one : Int) (v_far : Int), rs = [.dat (.int v_one), .dat (.int v_far)] ∧ ms2 = ms ∧ ∃ v : Int, m_common v_one v_far = some v ∧ r = .dat (.int v)
theorem kn_common (T : Txt K mg) {f : Addr} {fd : FuncData} (Fu : Fun K "common" "common" s_common f fd) (hmf : mg "common" = some (.ref f))  : Kn P w K mg base 1 "common" R_common := by
  have hb := Fu.binds (ps := ["one", "far"]) fun _ _ _ _ _ _ us hl => match us, hl with | [_, _], _ => rfl
  refine kn_of (kk := 0) Fu sc_common hb hmf rfl (by decide) (by rintro rs ms0 r ms ⟨v_one, v_far, rfl, rfl, v, h, rfl⟩; exact ⟨rfl, rfl⟩) ?_
  rintro rs ms0 r ms ⟨v_one, v_far, rfl, rfl, v, h, rfl⟩
  show Ex _ _ [.dat (.int v_one), .dat (.int v_far)] ms (fun o => Fin ms o (.dat (.int v)))
  unfold m_common at h
  show Ex _ _ [.dat (.int v_one), .dat (.int v_far)] _ _
  refine ex_cons (ss_par 0 1 sc_common.nd rfl rfl (by decide) rfl rfl (fun X hX => (sw_env (env' := env0 (defScope s_common)) hX.sc _ _).trans rfl) (ea_cons (fun _ _ _ p q => pa_cons p q) (ee_abs T.abs (by rfl) (ea_cons (fun _ _ _ p q => pa_cons p q) (ee_var 0 rfl (Or.inl rfl) rfl) ea_nil)) (ea_cons (fun _ _ _ p q => pa_cons p q) (ee_abs T.abs (by rfl) (ea_cons (fun _ _ _ p q => pa_cons p q) (ee_var 1 rfl (Or.inl rfl) rfl) ea_nil)) ea_nil)) rfl rfl) ?_
  show Ex _ _ [.dat (.int (v_one.natAbs : Int)), .dat (.int (v_far.natAbs : Int))] _ _
  obtain ⟨s3, hs3, h⟩ := bindS h
  refine ex_cons (ss_whileS (s0 := ((v_one.natAbs : Int), (v_far.natAbs : Int))) _ _ (fun s1 : Int × Int => [.dat (.int s1.1), .dat (.int s1.2)]) (fun s1 : Int × Int => ms) (ms.length) _ rfl (fun _ => rfl) (.cons .dat (.cons .dat .nil))
    (fun s1 t4 h => by
      obtain rfl := someS h
      exact (et_gt (nobehind _ (by decide) (by decide)) (ee_var 1 rfl (Or.inl rfl) rfl) ee_int)
    ) (fun s1 s2 _ h => by
      show Ex _ _ [.dat (.int s1.1), .dat (.int s1.2)] _ _
      obtain ⟨t5, ht5, h⟩ := bindS h
      refine ex_cons (ss_par 0 1 sc_common.nd rfl rfl (by decide) rfl rfl (fun X hX => (sw_env (env' := env0 (defScope s_common)) hX.sc _ _).trans rfl) (ea_cons (fun _ _ _ p q => pa_cons p q) (ee_var 1 rfl (Or.inl rfl) rfl) (ea_cons (fun _ _ _ p q => pa_cons p q) (ee_modO (ee_var 0 rfl (Or.inl rfl) rfl) (ee_var 1 rfl (Or.inl rfl) rfl) ht5) ea_nil)) rfl rfl) ?_
      obtain rfl := someS h
      exact ex_nil (turn_go (.cons .dat (.cons .dat .nil)))
    ) hs3) ?_
  show Ex _ _ [.dat (.int s3.1), .dat (.int s3.2)] _ _
  obtain rfl := someS h
  exact ex_out (ss_ret (ee_var 0 rfl (Or.inl rfl) rfl)) rfl fin_dat

def s_is_point_of : Stmt := topS 17
def nm_is_point_of : List Str := ["value", "one"]
theorem sc_is_point_of : FnScope nm_is_point_of ["value"] (defScope s_is_point_of) := ⟨rfl, rfl, rfl, by decide +kernel, rfl, by decide +kernel, by decide +kernel⟩
def m_is_point_of (v_value : (Int × Int × Int)) : Option (Bool) := (if (!true) = true then some true else ((if (decide (3 ≠ 3)) = true then some true else ((szO ([v_value.1, v_value.2.1, v_value.2.2] : List Int)).bind fun t1 => (mapO (fun (x2 : Int) => (m_is_within (.int x2) (-999999999999999999999999999999999999999999999999999999999999) 999999999999999999999999999999999999999999999999999999999999).bind fun t5 => some t5) ([v_value.1, v_value.2.1, v_value.2.2] : List Int)).bind fun t6 => some (!((t6 : List Bool).all id)))).bind fun t8 => some t8)).bind fun t10 => if t10 = true then (some false) else ((if (decide (0 < v_value.2.2)) = true then ((m_common v_value.1 v_value.2.1).bind fun t12 => (m_common t12 v_value.2.2).bind fun t13 => some (decide (t13 = 1))) else some false).bind fun t14 => some t14)
def R_is_point_of : Rel := fun rs ms r ms2 => ∃ (v_value : (Int × Int × Int)), rs = [.dat (e_t3iii v_value)] ∧ ms2 = ms ∧ ∃ v : Bool, m_is_point_of v_value = some v ∧ r = .dat (.bool v)
theorem kn_is_point_of (T : Txt K mg) {f : Addr} {fd : FuncData} (Fu : Fun K "is_point_of" "is_point_of" s_is_point_of f fd) (hmf : mg "is_point_of" = some (.ref f)) (g_is_within : Kn P w K mg base 1 "is_within" R_is_within) (g_common : Kn P w K mg base 1 "common" R_common) : Kn P w K mg base 2 "is_point_of" R_is_point_of := by
  have hb := Fu.binds (ps := ["value"]) fun _ _ _ _ _ _ us hl => match us, hl with | [_], _ => rfl
  refine kn_of (kk := 1) Fu sc_is_point_of hb hmf rfl (by decide) (by rintro rs ms0 r ms ⟨v_value, rfl, rfl, v, h, rfl⟩; exact ⟨rfl, rfl⟩) ?_
  rintro rs ms0 r ms ⟨v_value, rfl, rfl, v, h, rfl⟩
  show Ex _ _ [.dat (e_t3iii v_value), .un] ms (fun o => Fin ms o (.dat (.bool v)))
  unfold m_is_point_of at h
  show Ex _ _ [.dat (e_t3iii v_value), .un] _ _
  obtain ⟨t10, ht10, h⟩ := bindS h
  rcases boolCases t10 with hc11 | hc11
  · have h := iteT' hc11 h
    refine ex_ifT (et_w (ew_orO (et_not (et_val (fun _ _ => rfl) (ee_isi T.isinstance (by rfl) (isi_tuple (e_t3iii v_value)) (ea_cons (fun _ _ _ p q => pa_cons p q) (ee_var 0 rfl (Or.inl rfl) rfl) (ea_cons (fun _ _ _ p q => pa_cons p q) (ee_ty T.tuple (by rfl) bt_tuple) ea_nil))))) ht10 (fun _ g9 => by obtain ⟨t8, ht8, g9⟩ := bindS g9; obtain rfl := someS g9; exact (ew_orO (et_neI (nobehind _ (by decide) (by decide)) (ee_is (ee_lenT T.len (by rfl) (ea_cons (fun _ _ _ p q => pa_cons p q) (ee_var 0 rfl (Or.inl rfl) rfl) ea_nil)) rfl) ee_int) ht8 (fun _ g7 => by obtain ⟨t1, ht1, g7⟩ := bindS g7; obtain ⟨t6, ht6, g7⟩ := bindS g7; obtain rfl := someS g7; exact (ew_or1 (et_not (et_val (fun _ _ => rfl) (ee_all T.all (by rfl) (ea_cons (fun _ _ _ p q => pa_cons p q) (ee_lcP [("one", 1)] PyData.int PyData.bool ([v_value.1, v_value.2.1, v_value.2.2] : List Int) _ sc_is_point_of.nd (blkOk_by (N := nm_is_point_of) (sc := defScope s_is_point_of) (by decide +kernel)) (fun _ _ => rfl) (it_tup (ds := ([v_value.1, v_value.2.1, v_value.2.2] : List Int).map PyData.int) (fun X _ h => pi_tup h) (ee_var 0 rfl (Or.inl rfl) rfl)) (fun _ => trivial) (by first | exact Nat.le_refl _ | (simp only [List.length_append, MD_len, List.length_cons, List.length_nil, Sx.blk]; omega)) (fun x2 _ y4 ex g3 => by obtain ⟨t5, ht5, g3⟩ := bindS g3; obtain rfl := someS g3; exact ⟨_, _, by decide, (eg_name 1 sc_is_point_of.nd rfl (Or.inl rfl) (.inr rfl)), _, (ee_call g_is_within (Nat.le_of_ble_eq_true rfl) (by rfl) (ea_cons (fun _ _ _ p q => pa_cons p q) (ee_var 1 rfl (Or.inl rfl) rfl) (ea_cons (fun _ _ _ p q => pa_cons p q) (ee_neg (ee_gint T.c_GREAT (by rfl))) (ea_cons (fun _ _ _ p q => pa_cons p q) (ee_gint T.c_GREAT (by rfl)) ea_nil))) ⟨(.int x2), (-999999999999999999999999999999999999999999999999999999999999), 999999999999999999999999999999999999999999999999999999999999, rfl, rfl, t5, ht5, rfl⟩ (mu_dat (mu_dat (mu_dat mu_nil)))), rfl⟩) ht6 (szO_some ht1).1) ea_nil) rfl))))))))) hc11 ?_
    obtain rfl := someS h
    exact ex_out (ss_ret ee_bool) rfl fin_dat
  · have h := iteF' hc11 h
    refine ex_ifF0 (et_w (ew_orO (et_not (et_val (fun _ _ => rfl) (ee_isi T.isinstance (by rfl) (isi_tuple (e_t3iii v_value)) (ea_cons (fun _ _ _ p q => pa_cons p q) (ee_var 0 rfl (Or.inl rfl) rfl) (ea_cons (fun _ _ _ p q => pa_cons p q) (ee_ty T.tuple (by rfl) bt_tuple) ea_nil))))) ht10 (fun _ g9 => by obtain ⟨t8, ht8, g9⟩ := bindS g9; obtain rfl := someS g9; exact (ew_orO (et_neI (nobehind _ (by decide) (by decide)) (ee_is (ee_lenT T.len (by rfl) (ea_cons (fun _ _ _ p q => pa_cons p q) (ee_var 0 rfl (Or.inl rfl) rfl) ea_nil)) rfl) ee_int) ht8 (fun _ g7 => by obtain ⟨t1, ht1, g7⟩ := bindS g7; obtain ⟨t6, ht6, g7⟩ := bindS g7; obtain rfl := someS g7; exact (ew_or1 (et_not (et_val (fun _ _ => rfl) (ee_all T.all (by rfl) (ea_cons (fun _ _ _ p q => pa_cons p q) (ee_lcP [("one", 1)] PyData.int PyData.bool ([v_value.1, v_value.2.1, v_value.2.2] : List Int) _ sc_is_point_of.nd (blkOk_by (N := nm_is_point_of) (sc := defScope s_is_point_of) (by decide +kernel)) (fun _ _ => rfl) (it_tup (ds := ([v_value.1, v_value.2.1, v_value.2.2] : List Int).map PyData.int) (fun X _ h => pi_tup h) (ee_var 0 rfl (Or.inl rfl) rfl)) (fun _ => trivial) (by first | exact Nat.le_refl _ | (simp only [List.length_append, MD_len, List.length_cons, List.length_nil, Sx.blk]; omega)) (fun x2 _ y4 ex g3 => by obtain ⟨t5, ht5, g3⟩ := bindS g3; obtain rfl := someS g3; exact ⟨_, _, by decide, (eg_name 1 sc_is_point_of.nd rfl (Or.inl rfl) (.inr rfl)), _, (ee_call g_is_within (Nat.le_of_ble_eq_true rfl) (by rfl) (ea_cons (fun _ _ _ p q => pa_cons p q) (ee_var 1 rfl (Or.inl rfl) rfl) (ea_cons (fun _ _ _ p q => pa_cons p q) (ee_neg (ee_gint T.c_GREAT (by rfl))) (ea_cons (fun _ _ _ p q => pa_cons p q) (ee_gint T.c_GREAT (by rfl)) ea_nil))) ⟨(.int x2), (-999999999999999999999999999999999999999999999999999999999999), 999999999999999999999999999999999999999999999999999999999999, rfl, rfl, t5, ht5, rfl⟩ (mu_dat (mu_dat (mu_dat mu_nil)))), rfl⟩) ht6 (szO_some ht1).1) ea_nil) rfl))))))))) hc11 ?_
    obtain ⟨t14, ht14, h⟩ := bindS h
    obtain rfl := someS h
    exact ex_out (ss_ret (ee_andO (ee_gt (nobehind _ (by decide) (by decide)) (ee_ixT (fun X _ _ p q => pe_ix ix_tup p q (fun _ _ => rfl)) (ee_var 0 rfl (Or.inl rfl) rfl) ee_int (by rfl)) ee_int) ht14 (fun _ g15 => by obtain ⟨t12, ht12, g15⟩ := bindS g15; obtain ⟨t13, ht13, g15⟩ := bindS g15; obtain rfl := someS g15; exact (ee_one (ee_eqI (nobehind _ (by decide) (by decide)) (ee_call g_common (Nat.le_of_ble_eq_true rfl) (by rfl) (ea_cons (fun _ _ _ p q => pa_cons p q) (ee_call g_common (Nat.le_of_ble_eq_true rfl) (by rfl) (ea_cons (fun _ _ _ p q => pa_cons p q) (ee_ixT (fun X _ _ p q => pe_ix ix_tup p q (fun _ _ => rfl)) (ee_var 0 rfl (Or.inl rfl) rfl) ee_int (by rfl)) (ea_cons (fun _ _ _ p q => pa_cons p q) (ee_ixT (fun X _ _ p q => pe_ix ix_tup p q (fun _ _ => rfl)) (ee_var 0 rfl (Or.inl rfl) rfl) ee_int (by rfl)) ea_nil)) ⟨v_value.1, v_value.2.1, rfl, rfl, t12, ht12, rfl⟩ (mu_dat (mu_dat mu_nil))) (ea_cons (fun _ _ _ p q => pa_cons p q) (ee_ixT (fun X _ _ p q => pe_ix ix_tup p q (fun _ _ => rfl)) (ee_var 0 rfl (Or.inl rfl) rfl) ee_int (by rfl)) ea_nil)) ⟨t12, v_value.2.2, rfl, rfl, t13, ht13, rfl⟩ (mu_dat (mu_dat mu_nil))) ee_int))))) rfl fin_dat

def s_are_corners_of : Stmt := topS 34
def nm_are_corners_of : List Str := ["value", "corner", "at"]
theorem sc_are_corners_of : FnScope nm_are_corners_of ["value"] (defScope s_are_corners_of) := ⟨rfl, rfl, rfl, by decide +kernel, rfl, by decide +kernel, by decide +kernel⟩
def m_are_corners_of (v_value : (List (Int × Int × Int))) : Option (Bool) := if ((!true) || (!(decide (3 ≤ (v_value.length : Int)) && decide ((v_value.length : Int) ≤ 60)))) = true then (some false) else ((szO (v_value : List (Int × Int × Int))).bind fun t2 => (mapO (fun (x3 : (Int × Int × Int)) => (m_is_point_of x3).bind fun t6 => some t6) (v_value : List (Int × Int × Int))).bind fun t7 => if (!((t7 : List Bool).all id)) = true then (some false) else ((some (enumL (v_value : List (Int × Int × Int)))).bind fun t9 => (szO t9).bind fun t10 => (mapO (fun (x11 : (Int × (Int × Int × Int))) => (ixO (v_value : List (Int × Int × Int)) (x11.1 - 1)).bind fun t14 => (eqO (e_t3iii x11.2) (e_t3iii t14)).bind fun t15 => some (!t15)) t9).bind fun t16 => some ((t16 : List Bool).all id)))
def R_are_corners_of : Rel := fun rs ms r ms2 => ∃ (v_value : (List (Int × Int × Int))), rs = [.dat (e_ut3iii v_value)] ∧ ms2 = ms ∧ ∃ v : Bool, m_are_corners_of v_value = some v ∧ r = .dat (.bool v)
theorem kn_are_corners_of (T : Txt K mg) {f : Addr} {fd : FuncData} (Fu : Fun K "are_corners_of" "are_corners_of" s_are_corners_of f fd) (hmf : mg "are_corners_of" = some (.ref f)) (g_is_point_of : Kn P w K mg base 2 "is_point_of" R_is_point_of) : Kn P w K mg base 3 "are_corners_of" R_are_corners_of := by
  have hb := Fu.binds (ps := ["value"]) fun _ _ _ _ _ _ us hl => match us, hl with | [_], _ => rfl
  refine kn_of (kk := 2) Fu sc_are_corners_of hb hmf rfl (by decide) (by rintro rs ms0 r ms ⟨v_value, rfl, rfl, v, h, rfl⟩; exact ⟨rfl, rfl⟩) ?_
  rintro rs ms0 r ms ⟨v_value, rfl, rfl, v, h, rfl⟩
  show Ex _ _ [.dat (e_ut3iii v_value), .un, .un] ms (fun o => Fin ms o (.dat (.bool v)))
  unfold m_are_corners_of at h
  show Ex _ _ [.dat (e_ut3iii v_value), .un, .un] _ _
  rcases boolCases ((!true) || (!(decide (3 ≤ (v_value.length : Int)) && decide ((v_value.length : Int) ≤ 60)))) with hc1 | hc1
  · have h := iteT' hc1 h
    refine ex_ifT (et_w (ew_orV (et_not (et_val (fun _ _ => rfl) (ee_isi T.isinstance (by rfl) (isi_tuple (e_ut3iii v_value)) (ea_cons (fun _ _ _ p q => pa_cons p q) (ee_var 0 rfl (Or.inr (Or.inl rfl)) rfl) (ea_cons (fun _ _ _ p q => pa_cons p q) (ee_ty T.tuple (by rfl) bt_tuple) ea_nil))))) (fun _ => (ew_or1 (et_not (et_chain (fun _ => op_le) (fun _ => op_le) (by with_unfolding_all rfl) ee_int (ee_is (ee_lenT T.len (by rfl) (ea_cons (fun _ _ _ p q => pa_cons p q) (ee_var 0 rfl (Or.inr (Or.inl rfl)) rfl) ea_nil)) (by rw [List.length_map])) (ee_gint T.c_MOST_CORNERS (by rfl)))))))) hc1 ?_
    obtain rfl := someS h
    exact ex_out (ss_ret ee_bool) rfl fin_dat
  · have h := iteF' hc1 h
    refine ex_ifF0 (et_w (ew_orV (et_not (et_val (fun _ _ => rfl) (ee_isi T.isinstance (by rfl) (isi_tuple (e_ut3iii v_value)) (ea_cons (fun _ _ _ p q => pa_cons p q) (ee_var 0 rfl (Or.inr (Or.inl rfl)) rfl) (ea_cons (fun _ _ _ p q => pa_cons p q) (ee_ty T.tuple (by rfl) bt_tuple) ea_nil))))) (fun _ => (ew_or1 (et_not (et_chain (fun _ => op_le) (fun _ => op_le) (by with_unfolding_all rfl) ee_int (ee_is (ee_lenT T.len (by rfl) (ea_cons (fun _ _ _ p q => pa_cons p q) (ee_var 0 rfl (Or.inr (Or.inl rfl)) rfl) ea_nil)) (by rw [List.length_map])) (ee_gint T.c_MOST_CORNERS (by rfl)))))))) hc1 ?_
    obtain ⟨t2, ht2, h⟩ := bindS h
    obtain ⟨t7, ht7, h⟩ := bindS h
    rcases boolCases (!((t7 : List Bool).all id)) with hc8 | hc8
    · have h := iteT' hc8 h
      refine ex_ifT (et_not (et_val (fun _ _ => rfl) (ee_all T.all (by rfl) (ea_cons (fun _ _ _ p q => pa_cons p q) (ee_lcP [("corner", 1)] e_t3iii PyData.bool (v_value : List (Int × Int × Int)) _ sc_are_corners_of.nd (blkOk_by (N := nm_are_corners_of) (sc := defScope s_are_corners_of) (by decide +kernel)) (fun _ _ => rfl) (it_tup (ds := (v_value : List (Int × Int × Int)).map e_t3iii) (fun X _ h => pi_tup h) (ee_var 0 rfl (Or.inr (Or.inl rfl)) rfl)) (fun _ => trivial) (by first | exact Nat.le_refl _ | (simp only [List.length_append, MD_len, List.length_cons, List.length_nil, Sx.blk]; omega)) (fun x3 _ y5 ex g4 => by obtain ⟨t6, ht6, g4⟩ := bindS g4; obtain rfl := someS g4; exact ⟨_, _, by decide, (eg_name 1 sc_are_corners_of.nd rfl (Or.inl rfl) (.inr rfl)), _, (ee_call g_is_point_of (Nat.le_of_ble_eq_true rfl) (by rfl) (ea_cons (fun _ _ _ p q => pa_cons p q) (ee_var 1 rfl (Or.inl rfl) rfl) ea_nil) ⟨x3, rfl, rfl, t6, ht6, rfl⟩ (mu_dat mu_nil)), rfl⟩) ht7 (szO_some ht2).1) ea_nil) rfl))) hc8 ?_
      obtain rfl := someS h
      exact ex_out (ss_ret ee_bool) rfl fin_dat
    · have h := iteF' hc8 h
      refine ex_ifF0 (et_not (et_val (fun _ _ => rfl) (ee_all T.all (by rfl) (ea_cons (fun _ _ _ p q => pa_cons p q) (ee_lcP [("corner", 1)] e_t3iii PyData.bool (v_value : List (Int × Int × Int)) _ sc_are_corners_of.nd (blkOk_by (N := nm_are_corners_of) (sc := defScope s_are_corners_of) (by decide +kernel)) (fun _ _ => rfl) (it_tup (ds := (v_value : List (Int × Int × Int)).map e_t3iii) (fun X _ h => pi_tup h) (ee_var 0 rfl (Or.inr (Or.inl rfl)) rfl)) (fun _ => trivial) (by first | exact Nat.le_refl _ | (simp only [List.length_append, MD_len, List.length_cons, List.length_nil, Sx.blk]; omega)) (fun x3 _ y5 ex g4 => by obtain ⟨t6, ht6, g4⟩ := bindS g4; obtain rfl := someS g4; exact ⟨_, _, by decide, (eg_name 1 sc_are_corners_of.nd rfl (Or.inl rfl) (.inr rfl)), _, (ee_call g_is_point_of (Nat.le_of_ble_eq_true rfl) (by rfl) (ea_cons (fun _ _ _ p q => pa_cons p q) (ee_var 1 rfl (Or.inl rfl) rfl) ea_nil) ⟨x3, rfl, rfl, t6, ht6, rfl⟩ (mu_dat mu_nil)), rfl⟩) ht7 (szO_some ht2).1) ea_nil) rfl))) hc8 ?_
      obtain ⟨t9, ht9, h⟩ := bindS h
      obtain ⟨t10, ht10, h⟩ := bindS h
      obtain ⟨t16, ht16, h⟩ := bindS h
      obtain rfl := someS h
      exact ex_out (ss_ret (ee_all T.all (by rfl) (ea_cons (fun _ _ _ p q => pa_cons p q) (ee_lcP [("at", 2), ("corner", 1)] e_t2it3iii PyData.bool t9 _ sc_are_corners_of.nd (blkOk_by (N := nm_are_corners_of) (sc := defScope s_are_corners_of) (by decide +kernel)) (fun _ _ => rfl) (it_enumT e_t3iii T.enumerate (by rfl) (ea_cons (fun _ _ _ p q => pa_cons p q) (ee_var 0 rfl (Or.inr (Or.inl rfl)) rfl) ea_nil)  ht9) (fun _ => trivial) (by first | exact Nat.le_refl _ | (simp only [List.length_append, MD_len, List.length_cons, List.length_nil, Sx.blk]; omega)) (fun x11 _ y13 ex g12 => by obtain ⟨t14, ht14, g12⟩ := bindS g12; obtain ⟨t15, ht15, g12⟩ := bindS g12; obtain rfl := someS g12; exact ⟨_, _, by decide, (eg_tup (fun _ => rfl) (fun _ => rfl) (egs_cons (fun _ _ _ p q => pgs_cons p q) (eg_name 2 sc_are_corners_of.nd rfl (Or.inl rfl) (.inr rfl)) (egs_cons (fun _ _ _ p q => pgs_cons p q) (eg_name 1 sc_are_corners_of.nd rfl (Or.inl rfl) (.inr rfl)) egs_nil))), _, (ee_neO (nobehind _ (by decide) (by decide)) (ee_var 1 rfl (Or.inl rfl) rfl) (ee_ixT (fun X _ _ p q => pe_ix ix_tup p q (fun _ _ => rfl)) (ee_var 0 rfl (Or.inr (Or.inl rfl)) rfl) (ee_sub (ee_var 2 rfl (Or.inl rfl) rfl) ee_int) (atI_map e_t3iii ht14)) rfl rfl ht15), rfl⟩) ht16 (szO_some ht10).1) ea_nil) rfl)) rfl fin_dat

def s_require_corners : Stmt := topS 44
def nm_require_corners : List Str := ["corners"]
theorem sc_require_corners : FnScope nm_require_corners ["corners"] (defScope s_require_corners) := ⟨rfl, rfl, rfl, by decide +kernel, rfl, by decide +kernel, by decide +kernel⟩
def m_require_corners (v_corners : (List (Int × Int × Int))) : Option (Unit) := (m_are_corners_of v_corners).bind fun t1 => if (!t1) = true then (none) else (some ())
def R_require_corners : Rel := fun rs ms r ms2 => ∃ (v_corners : (List (Int × Int × Int))), rs = [.dat (e_ut3iii v_corners)] ∧ ms2 = ms ∧ ∃ v : Unit, m_require_corners v_corners = some v ∧ r = .dat .none
theorem kn_require_corners (T : Txt K mg) {f : Addr} {fd : FuncData} (Fu : Fun K "require_corners" "require_corners" s_require_corners f fd) (hmf : mg "require_corners" = some (.ref f)) (g_are_corners_of : Kn P w K mg base 3 "are_corners_of" R_are_corners_of) : Kn P w K mg base 4 "require_corners" R_require_corners := by
  have hb := Fu.binds (ps := ["corners"]) fun _ _ _ _ _ _ us hl => match us, hl with | [_], _ => rfl
  refine kn_of (kk := 3) Fu sc_require_corners hb hmf rfl (by decide) (by rintro rs ms0 r ms ⟨v_corners, rfl, rfl, v, h, rfl⟩; exact ⟨rfl, rfl⟩) ?_
  rintro rs ms0 r ms ⟨v_corners, rfl, rfl, v, h, rfl⟩
  show Ex _ _ [.dat (e_ut3iii v_corners)] ms (fun o => Fin ms o (.dat .none))
  unfold m_require_corners at h
  show Ex _ _ [.dat (e_ut3iii v_corners)] _ _
  obtain ⟨t1, ht1, h⟩ := bindS h
  rcases boolCases (!t1) with hc2 | hc2
  · have h := iteT' hc2 h
    refine ex_ifT (et_not (et_val (fun _ _ => rfl) (ee_call g_are_corners_of (Nat.le_of_ble_eq_true rfl) (by rfl) (ea_cons (fun _ _ _ p q => pa_cons p q) (ee_var 0 rfl (Or.inl rfl) rfl) ea_nil) ⟨v_corners, rfl, rfl, t1, ht1, rfl⟩ (mu_dat mu_nil)))) hc2 ?_
    cases h
  · have h := iteF' hc2 h
    refine ex_ifF0 (et_not (et_val (fun _ _ => rfl) (ee_call g_are_corners_of (Nat.le_of_ble_eq_true rfl) (by rfl) (ea_cons (fun _ _ _ p q => pa_cons p q) (ee_var 0 rfl (Or.inl rfl) rfl) ea_nil) ⟨v_corners, rfl, rfl, t1, ht1, rfl⟩ (mu_dat mu_nil)))) hc2 ?_
    obtain rfl := someS h
    exact ex_nil fin_none

def s_sign_of : Stmt := topS 18
def nm_sign_of : List Str := ["number"]
theorem sc_sign_of : FnScope nm_sign_of ["number"] (defScope s_sign_of) := ⟨rfl, rfl, rfl, by decide +kernel, rfl, by decide +kernel, by decide +kernel⟩
def m_sign_of (v_number : Int) : Option (Int) := some (if (decide (0 < v_number)) = true then 1 else (if (decide (v_number < 0)) = true then (-1) else 0))
def R_sign_of : Rel := fun rs ms r ms2 => ∃ (v_number : Int), rs = [.dat (.int v_number)] ∧ ms2 = ms ∧ ∃ v : Int, m_sign_of v_number = some v ∧ r = .dat (.int v)
theorem kn_sign_of (T : Txt K mg) {f : Addr} {fd : FuncData} (Fu : Fun K "sign_of" "sign_of" s_sign_of f fd) (hmf : mg "sign_of" = some (.ref f))  : Kn P w K mg base 1 "sign_of" R_sign_of := by
  have hb := Fu.binds (ps := ["number"]) fun _ _ _ _ _ _ us hl => match us, hl with | [_], _ => rfl
  refine kn_of (kk := 0) Fu sc_sign_of hb hmf rfl (by decide) (by rintro rs ms0 r ms ⟨v_number, rfl, rfl, v, h, rfl⟩; exact ⟨rfl, rfl⟩) ?_
  rintro rs ms0 r ms ⟨v_number, rfl, rfl, v, h, rfl⟩
  show Ex _ _ [.dat (.int v_number)] ms (fun o => Fin ms o (.dat (.int v)))
  unfold m_sign_of at h
  show Ex _ _ [.dat (.int v_number)] _ _
  obtain rfl := someS h
  exact ex_out (ss_ret (ee_ifV PyData.int (et_gt (nobehind _ (by decide) (by decide)) (ee_var 0 rfl (Or.inl rfl) rfl) ee_int) (fun _ => ee_int) (fun _ => (ee_ifV PyData.int (et_lt (nobehind _ (by decide) (by decide)) (ee_var 0 rfl (Or.inl rfl) rfl) ee_int) (fun _ => (ee_neg ee_int)) (fun _ => ee_int))))) rfl fin_dat

def s_dotted : Stmt := topS 20
def nm_dotted : List Str := ["one", "far", "a", "b"]
theorem sc_dotted : FnScope nm_dotted ["one", "far"] (defScope s_dotted) := ⟨rfl, rfl, rfl, by decide +kernel, rfl, by decide +kernel, by decide +kernel⟩
def m_dotted (v_one : (Int × Int × Int)) (v_far : (Int × Int × Int)) : Option (Int) := (some (List.zip ([v_one.1, v_one.2.1, v_one.2.2] : List Int) ([v_far.1, v_far.2.1, v_far.2.2] : List Int))).bind fun t1 => (szO t1).bind fun t2 => (mapO (fun (x3 : (Int × Int)) => (mulO x3.1 x3.2).bind fun t6 => some t6) t1).bind fun t7 => some ((t7 : List Int).sum)
def R_dotted : Rel := fun rs ms r ms2 => ∃ (v_one : (Int × Int × Int)) (v_far : (Int × Int × Int)), rs = [.dat (e_v3iii v_one), .dat (e_t3iii v_far)] ∧ ms2 = ms ∧ ∃ v : Int, m_dotted v_one v_far = some v ∧ r = .dat (.int v)
theorem kn_dotted (T : Txt K mg) {f : Addr} {fd : FuncData} (Fu : Fun K "dotted" "dotted" s_dotted f fd) (hmf : mg "dotted" = some (.ref f))  : Kn P w K mg base 1 "dotted" R_dotted := by
  have hb := Fu.binds (ps := ["one", "far"]) fun _ _ _ _ _ _ us hl => match us, hl with | [_, _], _ => rfl
  refine kn_of (kk := 0) Fu sc_dotted hb hmf rfl (by decide) (by rintro rs ms0 r ms ⟨v_one, v_far, rfl, rfl, v, h, rfl⟩; exact ⟨rfl, rfl⟩) ?_
  rintro rs ms0 r ms ⟨v_one, v_far, rfl, rfl, v, h, rfl⟩
  show Ex _ _ [.dat (e_v3iii v_one), .dat (e_t3iii v_far), .un, .un] ms (fun o => Fin ms o (.dat (.int v)))
  unfold m_dotted at h
  show Ex _ _ [.dat (e_v3iii v_one), .dat (e_t3iii v_far), .un, .un] _ _
  obtain ⟨t1, ht1, h⟩ := bindS h
  obtain ⟨t2, ht2, h⟩ := bindS h
  obtain ⟨t7, ht7, h⟩ := bindS h
  obtain rfl := someS h
  exact ex_out (ss_ret (ee_sum T.sum (by rfl) (ea_cons (fun _ _ _ p q => pa_cons p q) (ee_lcP [("a", 2), ("b", 3)] e_t2ii PyData.int t1 _ sc_dotted.nd (blkOk_by (N := nm_dotted) (sc := defScope s_dotted) (by decide +kernel)) (fun _ _ => rfl) (it_zipLT PyData.int PyData.int T.zip (by rfl) (ea_cons (fun _ _ _ p q => pa_cons p q) (ee_var 0 rfl (Or.inl rfl) rfl) (ea_cons (fun _ _ _ p q => pa_cons p q) (ee_var 1 rfl (Or.inl rfl) rfl) ea_nil)) rfl ht1) (fun _ => rfl) (by first | exact Nat.le_refl _ | (simp only [List.length_append, MD_len, List.length_cons, List.length_nil, Sx.blk]; omega)) (fun x3 _ y5 ex g4 => by obtain ⟨t6, ht6, g4⟩ := bindS g4; obtain rfl := someS g4; exact ⟨_, _, by decide, (eg_tup (fun _ => rfl) (fun _ => rfl) (egs_cons (fun _ _ _ p q => pgs_cons p q) (eg_name 2 sc_dotted.nd rfl (Or.inl rfl) (.inr rfl)) (egs_cons (fun _ _ _ p q => pgs_cons p q) (eg_name 3 sc_dotted.nd rfl (Or.inl rfl) (.inr rfl)) egs_nil))), _, (ee_mulO (ee_var 2 rfl (Or.inl rfl) rfl) (ee_var 3 rfl (Or.inl rfl) rfl) ht6), rfl⟩) ht7 (szO_some ht2).1) ea_nil) rfl)) rfl fin_dat

def s_crossed : Stmt := topS 19
def nm_crossed : List Str := ["one", "far", "a", "b", "c", "d", "e", "f"]
theorem sc_crossed : FnScope nm_crossed ["one", "far"] (defScope s_crossed) := ⟨rfl, rfl, rfl, by decide +kernel, rfl, by decide +kernel, by decide +kernel⟩
def m_crossed (v_one : (Int × Int × Int)) (v_far : (Int × Int × Int)) : Option ((Int × Int × Int)) := (mulO v_one.2.1 v_far.2.2).bind fun t1 => (mulO v_one.2.2 v_far.2.1).bind fun t2 => (mulO v_one.2.2 v_far.1).bind fun t3 => (mulO v_one.1 v_far.2.2).bind fun t4 => (mulO v_one.1 v_far.2.1).bind fun t5 => (mulO v_one.2.1 v_far.1).bind fun t6 => some ((t1 - t2), (t3 - t4), (t5 - t6))
def R_crossed : Rel := fun rs ms r ms2 => ∃ (v_one : (Int × Int × Int)) (v_far : (Int × Int × Int)), rs = [.dat (e_t3iii v_one), .dat (e_t3iii v_far)] ∧ ms2 = ms ∧ ∃ v : (Int × Int × Int), m_crossed v_one v_far = some v ∧ r = .new [(.int v.1), (.int v.2.1), (.int v.2.2)]
theorem kn_crossed (T : Txt K mg) {f : Addr} {fd : FuncData} (Fu : Fun K "crossed" "crossed" s_crossed f fd) (hmf : mg "crossed" = some (.ref f))  : Kn P w K mg base 1 "crossed" R_crossed := by
  have hb := Fu.binds (ps := ["one", "far"]) fun _ _ _ _ _ _ us hl => match us, hl with | [_, _], _ => rfl
  refine kn_of (kk := 0) Fu sc_crossed hb hmf rfl (by decide) (by rintro rs ms0 r ms ⟨v_one, v_far, rfl, rfl, v, h, rfl⟩; exact ⟨rfl, rfl⟩) ?_
  rintro rs ms0 r ms ⟨v_one, v_far, rfl, rfl, v, h, rfl⟩
  show Ex _ _ [.dat (e_t3iii v_one), .dat (e_t3iii v_far), .un, .un, .un, .un, .un, .un] ms (fun o => Fin ms o (.new [(.int v.1), (.int v.2.1), (.int v.2.2)]))
  unfold m_crossed at h
  show Ex _ _ [.dat (e_t3iii v_one), .dat (e_t3iii v_far), .un, .un, .un, .un, .un, .un] _ _
  refine ex_cons (ss_asgS (fun _ => rfl) (fun X hX => (sw_env (env' := env0 (defScope s_crossed)) hX.sc _ _).trans rfl) (fun _ => rfl) (ee_tup (ea_cons (fun _ _ _ p q => pa_cons p q) (ee_var 0 rfl (Or.inl rfl) rfl) (ea_cons (fun _ _ _ p q => pa_cons p q) (ee_var 1 rfl (Or.inl rfl) rfl) ea_nil)) rfl (lnOk 2 rfl (by decide))) rfl (eg_tup (fun _ => rfl) (fun _ => rfl) (egs_cons (fun _ _ _ p q => pgs_cons p q) (eg_tup (fun _ => rfl) (fun _ => rfl) (egs_cons (fun _ _ _ p q => pgs_cons p q) (eg_name 2 sc_crossed.nd rfl (Or.inl rfl) (.inl rfl)) (egs_cons (fun _ _ _ p q => pgs_cons p q) (eg_name 3 sc_crossed.nd rfl (Or.inl rfl) (.inl rfl)) (egs_cons (fun _ _ _ p q => pgs_cons p q) (eg_name 4 sc_crossed.nd rfl (Or.inl rfl) (.inl rfl)) egs_nil)))) (egs_cons (fun _ _ _ p q => pgs_cons p q) (eg_tup (fun _ => rfl) (fun _ => rfl) (egs_cons (fun _ _ _ p q => pgs_cons p q) (eg_name 5 sc_crossed.nd rfl (Or.inl rfl) (.inl rfl)) (egs_cons (fun _ _ _ p q => pgs_cons p q) (eg_name 6 sc_crossed.nd rfl (Or.inl rfl) (.inl rfl)) (egs_cons (fun _ _ _ p q => pgs_cons p q) (eg_name 7 sc_crossed.nd rfl (Or.inl rfl) (.inl rfl)) egs_nil)))) egs_nil)))) ?_
  show Ex _ _ [.dat (e_t3iii v_one), .dat (e_t3iii v_far), .dat (.int v_one.1), .dat (.int v_one.2.1), .dat (.int v_one.2.2), .dat (.int v_far.1), .dat (.int v_far.2.1), .dat (.int v_far.2.2)] _ _
  obtain ⟨t1, ht1, h⟩ := bindS h
  obtain ⟨t2, ht2, h⟩ := bindS h
  obtain ⟨t3, ht3, h⟩ := bindS h
  obtain ⟨t4, ht4, h⟩ := bindS h
  obtain ⟨t5, ht5, h⟩ := bindS h
  obtain ⟨t6, ht6, h⟩ := bindS h
  obtain rfl := someS h
  exact ex_out (ss_ret (ee_lst (ea_cons (fun _ _ _ p q => pa_cons p q) (ee_sub (ee_mulO (ee_var 3 rfl (Or.inl rfl) rfl) (ee_var 7 rfl (Or.inl rfl) rfl) ht1) (ee_mulO (ee_var 4 rfl (Or.inl rfl) rfl) (ee_var 6 rfl (Or.inl rfl) rfl) ht2)) (ea_cons (fun _ _ _ p q => pa_cons p q) (ee_sub (ee_mulO (ee_var 4 rfl (Or.inl rfl) rfl) (ee_var 5 rfl (Or.inl rfl) rfl) ht3) (ee_mulO (ee_var 2 rfl (Or.inl rfl) rfl) (ee_var 7 rfl (Or.inl rfl) rfl) ht4)) (ea_cons (fun _ _ _ p q => pa_cons p q) (ee_sub (ee_mulO (ee_var 2 rfl (Or.inl rfl) rfl) (ee_var 6 rfl (Or.inl rfl) rfl) ht5) (ee_mulO (ee_var 3 rfl (Or.inl rfl) rfl) (ee_var 5 rfl (Or.inl rfl) rfl) ht6)) ea_nil))) rfl (lnOk 3 rfl (by decide)))) rfl fin_new

def s_turn_in : Stmt := topS 22
def nm_turn_in : List Str := ["one", "far", "third"]
theorem sc_turn_in : FnScope nm_turn_in ["one", "far", "third"] (defScope s_turn_in) := ⟨rfl, rfl, rfl, by decide +kernel, rfl, by decide +kernel, by decide +kernel⟩
def m_turn_in (v_one : (Int × Int × Int)) (v_far : (Int × Int × Int)) (v_third : (Int × Int × Int)) : Option (Int) := (m_crossed v_one v_far).bind fun t1 => (m_dotted t1 v_third).bind fun t2 => (m_sign_of t2).bind fun t3 => some t3
def R_turn_in : Rel := fun rs ms r ms2 => ∃ (v_one : (Int × Int × Int)) (v_far : (Int × Int × Int)) (v_third : (Int × Int × Int)), rs = [.dat (e_t3iii v_one), .dat (e_t3iii v_far), .dat (e_t3iii v_third)] ∧ ms2 = ms ∧ ∃ v : Int, m_turn_in v_one v_far v_third = some v ∧ r = .dat (.int v)
theorem kn_turn_in (T : Txt K mg) {f : Addr} {fd : FuncData} (Fu : Fun K "turn_in" "turn_in" s_turn_in f fd) (hmf : mg "turn_in" = some (.ref f)) (g_sign_of : Kn P w K mg base 1 "sign_of" R_sign_of) (g_dotted : Kn P w K mg base 1 "dotted" R_dotted) (g_crossed : Kn P w K mg base 1 "crossed" R_crossed) : Kn P w K mg base 2 "turn_in" R_turn_in := by
  have hb := Fu.binds (ps := ["one", "far", "third"]) fun _ _ _ _ _ _ us hl => match us, hl with | [_, _, _], _ => rfl
  refine kn_of (kk := 1) Fu sc_turn_in hb hmf rfl (by decide) (by rintro rs ms0 r ms ⟨v_one, v_far, v_third, rfl, rfl, v, h, rfl⟩; exact ⟨rfl, rfl⟩) ?_
  rintro rs ms0 r ms ⟨v_one, v_far, v_third, rfl, rfl, v, h, rfl⟩
  show Ex _ _ [.dat (e_t3iii v_one), .dat (e_t3iii v_far), .dat (e_t3iii v_third)] ms (fun o => Fin ms o (.dat (.int v)))
  unfold m_turn_in at h
  show Ex _ _ [.dat (e_t3iii v_one), .dat (e_t3iii v_far), .dat (e_t3iii v_third)] _ _
  obtain ⟨t1, ht1, h⟩ := bindS h
  obtain ⟨t2, ht2, h⟩ := bindS h
  obtain ⟨t3, ht3, h⟩ := bindS h
  obtain rfl := someS h
  exact ex_out (ss_ret (ee_call g_sign_of (Nat.le_of_ble_eq_true rfl) (by rfl) (ea_cons (fun _ _ _ p q => pa_cons p q) (ee_call g_dotted (Nat.le_of_ble_eq_true rfl) (by rfl) (ea_cons (fun _ _ _ p q => pa_cons p q) (ee_call g_crossed (Nat.le_of_ble_eq_true rfl) (by rfl) (ea_cons (fun _ _ _ p q => pa_cons p q) (ee_var 0 rfl (Or.inl rfl) rfl) (ea_cons (fun _ _ _ p q => pa_cons p q) (ee_var 1 rfl (Or.inl rfl) rfl) ea_nil)) ⟨v_one, v_far, rfl, rfl, t1, ht1, rfl⟩ (mu_dat (mu_dat mu_nil))) (ea_cons (fun _ _ _ p q => pa_cons p q) (ee_var 2 rfl (Or.inl rfl) rfl) ea_nil)) ⟨t1, v_third, rfl, rfl, t2, ht2, rfl⟩ (mu_dat (mu_dat mu_nil))) ea_nil) ⟨t2, rfl, rfl, t3, ht3, rfl⟩ (mu_dat mu_nil))) rfl fin_dat

def s_behind : Stmt := topS 35
def nm_behind : List Str := ["corners", "at"]
theorem sc_behind : FnScope nm_behind ["corners", "at"] (defScope s_behind) := ⟨rfl, rfl, rfl, by decide +kernel, rfl, by decide +kernel, by decide +kernel⟩
def m_behind (v_corners : (List (Int × Int × Int))) (v_at : Int) : Option ((Int × Int × Int)) := (modO (v_at + 1) (v_corners.length : Int)).bind fun t1 => (ixO (v_corners : List (Int × Int × Int)) t1).bind fun t2 => some t2
def R_behind : Rel := fun rs ms r ms2 => ∃ (v_corners : (List (Int × Int × Int))) (v_at : Int), rs = [.dat (e_ut3iii v_corners), .dat (.int v_at)] ∧ ms2 = ms ∧ ∃ v : (Int × Int × Int), m_behind v_corners v_at = some v ∧ r = .dat (e_t3iii v)
theorem kn_behind (T : Txt K mg) {f : Addr} {fd : FuncData} (Fu : Fun K "behind" "behind" s_behind f fd) (hmf : mg "behind" = some (.ref f))  : Kn P w K mg base 1 "behind" R_behind := by
  have hb := Fu.binds (ps := ["corners", "at"]) fun _ _ _ _ _ _ us hl => match us, hl with | [_, _], _ => rfl
  refine kn_of (kk := 0) Fu sc_behind hb hmf rfl (by decide) (by rintro rs ms0 r ms ⟨v_corners, v_at, rfl, rfl, v, h, rfl⟩; exact ⟨rfl, rfl⟩) ?_
  rintro rs ms0 r ms ⟨v_corners, v_at, rfl, rfl, v, h, rfl⟩
  show Ex _ _ [.dat (e_ut3iii v_corners), .dat (.int v_at)] ms (fun o => Fin ms o (.dat (e_t3iii v)))
  unfold m_behind at h
  show Ex _ _ [.dat (e_ut3iii v_corners), .dat (.int v_at)] _ _
  obtain ⟨t1, ht1, h⟩ := bindS h
  obtain ⟨t2, ht2, h⟩ := bindS h
  obtain rfl := someS h
  exact ex_out (ss_ret (ee_ixT (fun X _ _ p q => pe_ix ix_tup p q (fun _ _ => rfl)) (ee_var 0 rfl (Or.inl rfl) rfl) (ee_modO (ee_add (ee_var 1 rfl (Or.inl rfl) rfl) ee_int) (ee_is (ee_lenT T.len (by rfl) (ea_cons (fun _ _ _ p q => pa_cons p q) (ee_var 0 rfl (Or.inl rfl) rfl) ea_nil)) (by rw [List.length_map])) ht1) (atI_map e_t3iii ht2))) rfl fin_dat

def s_bent_in : Stmt := topS 37
def nm_bent_in : List Str := ["corners", "at"]
theorem sc_bent_in : FnScope nm_bent_in ["corners", "at"] (defScope s_bent_in) := ⟨rfl, rfl, rfl, by decide +kernel, rfl, by decide +kernel, by decide +kernel⟩
def m_bent_in (v_corners : (List (Int × Int × Int))) (v_at : Int) : Option (Int) := (ixO (v_corners : List (Int × Int × Int)) (v_at - 1)).bind fun t1 => (ixO (v_corners : List (Int × Int × Int)) v_at).bind fun t2 => (m_behind v_corners v_at).bind fun t3 => (m_turn_in t1 t2 t3).bind fun t4 => some t4
def R_bent_in : Rel := fun rs ms r ms2 => ∃ (v_corners : (List (Int × Int × Int))) (v_at : Int), rs = [.dat (e_ut3iii v_corners), .dat (.int v_at)] ∧ ms2 = ms ∧ ∃ v : Int, m_bent_in v_corners v_at = some v ∧ r = .dat (.int v)
theorem kn_bent_in (T : Txt K mg) {f : Addr} {fd : FuncData} (Fu : Fun K "bent_in" "bent_in" s_bent_in f fd) (hmf : mg "bent_in" = some (.ref f)) (g_turn_in : Kn P w K mg base 2 "turn_in" R_turn_in) (g_behind : Kn P w K mg base 1 "behind" R_behind) : Kn P w K mg base 3 "bent_in" R_bent_in := by
  have hb := Fu.binds (ps := ["corners", "at"]) fun _ _ _ _ _ _ us hl => match us, hl with | [_, _], _ => rfl
  refine kn_of (kk := 2) Fu sc_bent_in hb hmf rfl (by decide) (by rintro rs ms0 r ms ⟨v_corners, v_at, rfl, rfl, v, h, rfl⟩; exact ⟨rfl, rfl⟩) ?_
  rintro rs ms0 r ms ⟨v_corners, v_at, rfl, rfl, v, h, rfl⟩
  show Ex _ _ [.dat (e_ut3iii v_corners), .dat (.int v_at)] ms (fun o => Fin ms o (.dat (.int v)))
  unfold m_bent_in at h
  show Ex _ _ [.dat (e_ut3iii v_corners), .dat (.int v_at)] _ _
  obtain ⟨t1, ht1, h⟩ := bindS h
  obtain ⟨t2, ht2, h⟩ := bindS h
  obtain ⟨t3, ht3, h⟩ := bindS h
  obtain ⟨t4, ht4, h⟩ := bindS h
  obtain rfl := someS h
  exact ex_out (ss_ret (ee_call g_turn_in (Nat.le_of_ble_eq_true rfl) (by rfl) (ea_cons (fun _ _ _ p q => pa_cons p q) (ee_ixT (fun X _ _ p q => pe_ix ix_tup p q (fun _ _ => rfl)) (ee_var 0 rfl (Or.inl rfl) rfl) (ee_sub (ee_var 1 rfl (Or.inl rfl) rfl) ee_int) (atI_map e_t3iii ht1)) (ea_cons (fun _ _ _ p q => pa_cons p q) (ee_ixT (fun X _ _ p q => pe_ix ix_tup p q (fun _ _ => rfl)) (ee_var 0 rfl (Or.inl rfl) rfl) (ee_var 1 rfl (Or.inl rfl) rfl) (atI_map e_t3iii ht2)) (ea_cons (fun _ _ _ p q => pa_cons p q) (ee_call g_behind (Nat.le_of_ble_eq_true rfl) (by rfl) (ea_cons (fun _ _ _ p q => pa_cons p q) (ee_var 0 rfl (Or.inl rfl) rfl) (ea_cons (fun _ _ _ p q => pa_cons p q) (ee_var 1 rfl (Or.inl rfl) rfl) ea_nil)) ⟨v_corners, v_at, rfl, rfl, t3, ht3, rfl⟩ (mu_dat (mu_dat mu_nil))) ea_nil))) ⟨t1, t2, t3, rfl, rfl, t4, ht4, rfl⟩ (mu_dat (mu_dat (mu_dat mu_nil))))) rfl fin_dat

def s_straight_in : Stmt := topS 38
def nm_straight_in : List Str := ["corners", "at"]
theorem sc_straight_in : FnScope nm_straight_in ["corners"] (defScope s_straight_in) := ⟨rfl, rfl, rfl, by decide +kernel, rfl, by decide +kernel, by decide +kernel⟩
def m_straight_in (v_corners : (List (Int × Int × Int))) : Option ((List Int)) := (rgO (v_corners.length : Int)).bind fun t1 => (szO t1).bind fun t2 => (fmO (β := Int) (fun (x3 : Int) => (m_bent_in v_corners x3).bind fun t6 => if (decide (t6 = 0)) = true then (some (some x3)) else some none) t1).bind fun t9 => some t9
def R_straight_in : Rel := fun rs ms r ms2 => ∃ (v_corners : (List (Int × Int × Int))), rs = [.dat (e_ut3iii v_corners)] ∧ ms2 = ms ∧ ∃ v : (List Int), m_straight_in v_corners = some v ∧ r = .new (v.map PyData.int)
theorem kn_straight_in (T : Txt K mg) {f : Addr} {fd : FuncData} (Fu : Fun K "straight_in" "straight_in" s_straight_in f fd) (hmf : mg "straight_in" = some (.ref f)) (g_bent_in : Kn P w K mg base 3 "bent_in" R_bent_in) : Kn P w K mg base 4 "straight_in" R_straight_in := by
  have hb := Fu.binds (ps := ["corners"]) fun _ _ _ _ _ _ us hl => match us, hl with | [_], _ => rfl
  refine kn_of (kk := 3) Fu sc_straight_in hb hmf rfl (by decide) (by rintro rs ms0 r ms ⟨v_corners, rfl, rfl, v, h, rfl⟩; exact ⟨rfl, rfl⟩) ?_
  rintro rs ms0 r ms ⟨v_corners, rfl, rfl, v, h, rfl⟩
  show Ex _ _ [.dat (e_ut3iii v_corners), .un] ms (fun o => Fin ms o (.new (v.map PyData.int)))
  unfold m_straight_in at h
  show Ex _ _ [.dat (e_ut3iii v_corners), .un] _ _
  obtain ⟨t1, ht1, h⟩ := bindS h
  obtain ⟨t2, ht2, h⟩ := bindS h
  obtain ⟨t9, ht9, h⟩ := bindS h
  obtain rfl := someS h
  exact ex_out (ss_ret (ee_lcF [("at", 1)] PyData.int PyData.int t1 _ sc_straight_in.nd (blkOk_by (N := nm_straight_in) (sc := defScope s_straight_in) (by decide +kernel)) (fun _ _ => rfl) (it_rngO T.range (by rfl) (fun X _ h1 h2 h3 => pi_range1 h2 h3 h1) (ea_cons (fun _ _ _ p q => pa_cons p q) (ee_is (ee_lenT T.len (by rfl) (ea_cons (fun _ _ _ p q => pa_cons p q) (ee_var 0 rfl (Or.inr (Or.inl rfl)) rfl) ea_nil)) (by rw [List.length_map])) ea_nil) ht1) (fun _ => trivial) (by first | exact Nat.le_refl _ | (simp only [List.length_append, MD_len, List.length_cons, List.length_nil, Sx.blk]; omega)) (fun x3 _ o7 ex g4 => by (obtain ⟨t6, ht6, g4⟩ := bindS g4; exact (boolCases (decide (t6 = 0))).elim (fun hc8 => by (have g4 := iteT' hc8 g4; obtain rfl := someS g4; exact ⟨_, _, by decide, (eg_name 1 sc_straight_in.nd rfl (Or.inl rfl) (.inr rfl)), _, (et_eqI (nobehind _ (by decide) (by decide)) (ee_call g_bent_in (Nat.le_of_ble_eq_true rfl) (by rfl) (ea_cons (fun _ _ _ p q => pa_cons p q) (ee_var 0 rfl (Or.inr (Or.inl rfl)) rfl) (ea_cons (fun _ _ _ p q => pa_cons p q) (ee_var 1 rfl (Or.inl rfl) rfl) ea_nil)) ⟨v_corners, x3, rfl, rfl, t6, ht6, rfl⟩ (mu_dat (mu_dat mu_nil))) ee_int), hc8, fun _ q => ⟨_, (ee_var 1 rfl (Or.inl rfl) rfl), by cases q; rfl⟩⟩)) (fun hc8 => by (obtain rfl := someS (iteF' hc8 g4); exact ⟨_, _, by decide, (eg_name 1 sc_straight_in.nd rfl (Or.inl rfl) (.inr rfl)), _, (et_eqI (nobehind _ (by decide) (by decide)) (ee_call g_bent_in (Nat.le_of_ble_eq_true rfl) (by rfl) (ea_cons (fun _ _ _ p q => pa_cons p q) (ee_var 0 rfl (Or.inr (Or.inl rfl)) rfl) (ea_cons (fun _ _ _ p q => pa_cons p q) (ee_var 1 rfl (Or.inl rfl) rfl) ea_nil)) ⟨v_corners, x3, rfl, rfl, t6, ht6, rfl⟩ (mu_dat (mu_dat mu_nil))) ee_int), hc8, fun _ q => nomatch q⟩)))) ht9 (szO_some ht2).1)) rfl fin_new

def s_order_in : Stmt := topS 23
def nm_order_in : List Str := ["one", "far", "first"]
theorem sc_order_in : FnScope nm_order_in ["one", "far"] (defScope s_order_in) := ⟨rfl, rfl, rfl, by decide +kernel, rfl, by decide +kernel, by decide +kernel⟩
def m_order_in (v_one : (Int × Int × Int)) (v_far : (Int × Int × Int)) : Option (Int) := (mulO v_one.1 v_far.2.2).bind fun t1 => (mulO v_far.1 v_one.2.2).bind fun t2 => (if (decide ((t1 - t2) ≠ 0)) = true then (some (t1 - t2)) else ((mulO v_one.2.1 v_far.2.2).bind fun t3 => (mulO v_far.2.1 v_one.2.2).bind fun t4 => some (t3 - t4))).bind fun t5 => (m_sign_of t5).bind fun t8 => some t8
def R_order_in : Rel := fun rs ms r ms2 => ∃ (v_one : (Int × Int × Int)) (v_far : (Int × Int × Int)), rs = [.dat (e_t3iii v_one), .dat (e_t3iii v_far)] ∧ ms2 = ms ∧ ∃ v : Int, m_order_in v_one v_far = some v ∧ r = .dat (.int v)
theorem kn_order_in (T : Txt K mg) {f : Addr} {fd : FuncData} (Fu : Fun K "order_in" "order_in" s_order_in f fd) (hmf : mg "order_in" = some (.ref f)) (g_sign_of : Kn P w K mg base 1 "sign_of" R_sign_of) : Kn P w K mg base 2 "order_in" R_order_in := by
  have hb := Fu.binds (ps := ["one", "far"]) fun _ _ _ _ _ _ us hl => match us, hl with | [_, _], _ => rfl
  refine kn_of (kk := 1) Fu sc_order_in hb hmf rfl (by decide) (by rintro rs ms0 r ms ⟨v_one, v_far, rfl, rfl, v, h, rfl⟩; exact ⟨rfl, rfl⟩) ?_
  rintro rs ms0 r ms ⟨v_one, v_far, rfl, rfl, v, h, rfl⟩
  show Ex _ _ [.dat (e_t3iii v_one), .dat (e_t3iii v_far), .un] ms (fun o => Fin ms o (.dat (.int v)))
  unfold m_order_in at h
  show Ex _ _ [.dat (e_t3iii v_one), .dat (e_t3iii v_far), .un] _ _
  obtain ⟨t1, ht1, h⟩ := bindS h
  obtain ⟨t2, ht2, h⟩ := bindS h
  refine ex_cons (ss_set 2 sc_order_in.nd rfl (Or.inl rfl) (.inl rfl) (fun _ => rfl) (ee_sub (ee_mulO (ee_ixT (fun X _ _ p q => pe_ix ix_tup p q (fun _ _ => rfl)) (ee_var 0 rfl (Or.inl rfl) rfl) ee_int (by rfl)) (ee_ixT (fun X _ _ p q => pe_ix ix_tup p q (fun _ _ => rfl)) (ee_var 1 rfl (Or.inl rfl) rfl) ee_int (by rfl)) ht1) (ee_mulO (ee_ixT (fun X _ _ p q => pe_ix ix_tup p q (fun _ _ => rfl)) (ee_var 1 rfl (Or.inl rfl) rfl) ee_int (by rfl)) (ee_ixT (fun X _ _ p q => pe_ix ix_tup p q (fun _ _ => rfl)) (ee_var 0 rfl (Or.inl rfl) rfl) ee_int (by rfl)) ht2)) rfl) ?_
  show Ex _ _ [.dat (e_t3iii v_one), .dat (e_t3iii v_far), .dat (.int (t1 - t2))] _ _
  obtain ⟨t5, ht5, h⟩ := bindS h
  obtain ⟨t8, ht8, h⟩ := bindS h
  obtain rfl := someS h
  exact ex_out (ss_ret (ee_call g_sign_of (Nat.le_of_ble_eq_true rfl) (by rfl) (ea_cons (fun _ _ _ p q => pa_cons p q) (ee_ifO PyData.int (et_neI (nobehind _ (by decide) (by decide)) (ee_var 2 rfl (Or.inl rfl) rfl) ee_int) ht5 (fun _ g6 => by obtain rfl := someS g6; exact (ee_var 2 rfl (Or.inl rfl) rfl)) (fun _ g7 => by obtain ⟨t3, ht3, g7⟩ := bindS g7; obtain ⟨t4, ht4, g7⟩ := bindS g7; obtain rfl := someS g7; exact (ee_sub (ee_mulO (ee_ixT (fun X _ _ p q => pe_ix ix_tup p q (fun _ _ => rfl)) (ee_var 0 rfl (Or.inl rfl) rfl) ee_int (by rfl)) (ee_ixT (fun X _ _ p q => pe_ix ix_tup p q (fun _ _ => rfl)) (ee_var 1 rfl (Or.inl rfl) rfl) ee_int (by rfl)) ht3) (ee_mulO (ee_ixT (fun X _ _ p q => pe_ix ix_tup p q (fun _ _ => rfl)) (ee_var 1 rfl (Or.inl rfl) rfl) ee_int (by rfl)) (ee_ixT (fun X _ _ p q => pe_ix ix_tup p q (fun _ _ => rfl)) (ee_var 0 rfl (Or.inl rfl) rfl) ee_int (by rfl)) ht4)))) ea_nil) ⟨t5, rfl, rfl, t8, ht8, rfl⟩ (mu_dat mu_nil))) rfl fin_dat

def s_piece_in : Stmt := topS 27
def nm_piece_in : List Str := ["one", "far"]
theorem sc_piece_in : FnScope nm_piece_in ["one", "far"] (defScope s_piece_in) := ⟨rfl, rfl, rfl, by decide +kernel, rfl, by decide +kernel, by decide +kernel⟩
def m_piece_in (v_one : (Int × Int × Int)) (v_far : (Int × Int × Int)) : Option (((Int × Int × Int) × (Int × Int × Int))) := (m_order_in v_one v_far).bind fun t1 => some (if (decide (t1 < 0)) = true then (v_one, v_far) else (v_far, v_one))
def R_piece_in : Rel := fun rs ms r ms2 => ∃ (v_one : (Int × Int × Int)) (v_far : (Int × Int × Int)), rs = [.dat (e_t3iii v_one), .dat (e_t3iii v_far)] ∧ ms2 = ms ∧ ∃ v : ((Int × Int × Int) × (Int × Int × Int)), m_piece_in v_one v_far = some v ∧ r = .dat (e_t2t3iiit3iii v)
theorem kn_piece_in (T : Txt K mg) {f : Addr} {fd : FuncData} (Fu : Fun K "piece_in" "piece_in" s_piece_in f fd) (hmf : mg "piece_in" = some (.ref f)) (g_order_in : Kn P w K mg base 2 "order_in" R_order_in) : Kn P w K mg base 3 "piece_in" R_piece_in := by
  have hb := Fu.binds (ps := ["one", "far"]) fun _ _ _ _ _ _ us hl => match us, hl with | [_, _], _ => rfl
  refine kn_of (kk := 2) Fu sc_piece_in hb hmf rfl (by decide) (by rintro rs ms0 r ms ⟨v_one, v_far, rfl, rfl, v, h, rfl⟩; exact ⟨rfl, rfl⟩) ?_
  rintro rs ms0 r ms ⟨v_one, v_far, rfl, rfl, v, h, rfl⟩
  show Ex _ _ [.dat (e_t3iii v_one), .dat (e_t3iii v_far)] ms (fun o => Fin ms o (.dat (e_t2t3iiit3iii v)))
  unfold m_piece_in at h
  show Ex _ _ [.dat (e_t3iii v_one), .dat (e_t3iii v_far)] _ _
  obtain ⟨t1, ht1, h⟩ := bindS h
  obtain rfl := someS h
  exact ex_out (ss_ret (ee_ifV e_t2t3iiit3iii (et_lt (nobehind _ (by decide) (by decide)) (ee_call g_order_in (Nat.le_of_ble_eq_true rfl) (by rfl) (ea_cons (fun _ _ _ p q => pa_cons p q) (ee_var 0 rfl (Or.inl rfl) rfl) (ea_cons (fun _ _ _ p q => pa_cons p q) (ee_var 1 rfl (Or.inl rfl) rfl) ea_nil)) ⟨v_one, v_far, rfl, rfl, t1, ht1, rfl⟩ (mu_dat (mu_dat mu_nil))) ee_int) (fun _ => (ee_tup (ea_cons (fun _ _ _ p q => pa_cons p q) (ee_var 0 rfl (Or.inl rfl) rfl) (ea_cons (fun _ _ _ p q => pa_cons p q) (ee_var 1 rfl (Or.inl rfl) rfl) ea_nil)) rfl (lnOk 2 rfl (by decide)))) (fun _ => (ee_tup (ea_cons (fun _ _ _ p q => pa_cons p q) (ee_var 1 rfl (Or.inl rfl) rfl) (ea_cons (fun _ _ _ p q => pa_cons p q) (ee_var 0 rfl (Or.inl rfl) rfl) ea_nil)) rfl (lnOk 2 rfl (by decide)))))) rfl fin_dat

def s_edges_in : Stmt := topS 36
def nm_edges_in : List Str := ["corners", "at", "corner"]
theorem sc_edges_in : FnScope nm_edges_in ["corners"] (defScope s_edges_in) := ⟨rfl, rfl, rfl, by decide +kernel, rfl, by decide +kernel, by decide +kernel⟩
def m_edges_in (v_corners : (List (Int × Int × Int))) : Option ((List ((Int × Int × Int) × (Int × Int × Int)))) := (some (enumL (v_corners : List (Int × Int × Int)))).bind fun t1 => (szO t1).bind fun t2 => (mapO (fun (x3 : (Int × (Int × Int × Int))) => (m_behind v_corners x3.1).bind fun t6 => (m_piece_in x3.2 t6).bind fun t7 => some t7) t1).bind fun t8 => some t8
def R_edges_in : Rel := fun rs ms r ms2 => ∃ (v_corners : (List (Int × Int × Int))), rs = [.dat (e_ut3iii v_corners)] ∧ ms2 = ms ∧ ∃ v : (List ((Int × Int × Int) × (Int × Int × Int))), m_edges_in v_corners = some v ∧ r = .new (v.map e_t2t3iiit3iii)
theorem kn_edges_in (T : Txt K mg) {f : Addr} {fd : FuncData} (Fu : Fun K "edges_in" "edges_in" s_edges_in f fd) (hmf : mg "edges_in" = some (.ref f)) (g_piece_in : Kn P w K mg base 3 "piece_in" R_piece_in) (g_behind : Kn P w K mg base 1 "behind" R_behind) : Kn P w K mg base 4 "edges_in" R_edges_in := by
  have hb := Fu.binds (ps := ["corners"]) fun _ _ _ _ _ _ us hl => match us, hl with | [_], _ => rfl
  refine kn_of (kk := 3) Fu sc_edges_in hb hmf rfl (by decide) (by rintro rs ms0 r ms ⟨v_corners, rfl, rfl, v, h, rfl⟩; exact ⟨rfl, rfl⟩) ?_
  rintro rs ms0 r ms ⟨v_corners, rfl, rfl, v, h, rfl⟩
  show Ex _ _ [.dat (e_ut3iii v_corners), .un, .un] ms (fun o => Fin ms o (.new (v.map e_t2t3iiit3iii)))
  unfold m_edges_in at h
  show Ex _ _ [.dat (e_ut3iii v_corners), .un, .un] _ _
  obtain ⟨t1, ht1, h⟩ := bindS h
  obtain ⟨t2, ht2, h⟩ := bindS h
  obtain ⟨t8, ht8, h⟩ := bindS h
  obtain rfl := someS h
  exact ex_out (ss_ret (ee_lcP [("at", 1), ("corner", 2)] e_t2it3iii e_t2t3iiit3iii t1 _ sc_edges_in.nd (blkOk_by (N := nm_edges_in) (sc := defScope s_edges_in) (by decide +kernel)) (fun _ _ => rfl) (it_enumT e_t3iii T.enumerate (by rfl) (ea_cons (fun _ _ _ p q => pa_cons p q) (ee_var 0 rfl (Or.inr (Or.inl rfl)) rfl) ea_nil)  ht1) (fun _ => trivial) (by first | exact Nat.le_refl _ | (simp only [List.length_append, MD_len, List.length_cons, List.length_nil, Sx.blk]; omega)) (fun x3 _ y5 ex g4 => by obtain ⟨t6, ht6, g4⟩ := bindS g4; obtain ⟨t7, ht7, g4⟩ := bindS g4; obtain rfl := someS g4; exact ⟨_, _, by decide, (eg_tup (fun _ => rfl) (fun _ => rfl) (egs_cons (fun _ _ _ p q => pgs_cons p q) (eg_name 1 sc_edges_in.nd rfl (Or.inl rfl) (.inr rfl)) (egs_cons (fun _ _ _ p q => pgs_cons p q) (eg_name 2 sc_edges_in.nd rfl (Or.inl rfl) (.inr rfl)) egs_nil))), _, (ee_call g_piece_in (Nat.le_of_ble_eq_true rfl) (by rfl) (ea_cons (fun _ _ _ p q => pa_cons p q) (ee_var 2 rfl (Or.inl rfl) rfl) (ea_cons (fun _ _ _ p q => pa_cons p q) (ee_call g_behind (Nat.le_of_ble_eq_true rfl) (by rfl) (ea_cons (fun _ _ _ p q => pa_cons p q) (ee_var 0 rfl (Or.inr (Or.inl rfl)) rfl) (ea_cons (fun _ _ _ p q => pa_cons p q) (ee_var 1 rfl (Or.inl rfl) rfl) ea_nil)) ⟨v_corners, x3.1, rfl, rfl, t6, ht6, rfl⟩ (mu_dat (mu_dat mu_nil))) ea_nil)) ⟨x3.2, t6, rfl, rfl, t7, ht7, rfl⟩ (mu_dat (mu_dat mu_nil))), rfl⟩) ht8 (szO_some ht2).1)) rfl fin_new

def s_along_in : Stmt := topS 28
def nm_along_in : List Str := ["piece", "far_piece", "first", "last", "order"]
theorem sc_along_in : FnScope nm_along_in ["piece", "far_piece"] (defScope s_along_in) := ⟨rfl, rfl, rfl, by decide +kernel, rfl, by decide +kernel, by decide +kernel⟩
def m_along_in (v_piece : ((Int × Int × Int) × (Int × Int × Int))) (v_far_piece : ((Int × Int × Int) × (Int × Int × Int))) : Option (D) := (m_order_in v_piece.1 v_far_piece.1).bind fun t1 => (m_order_in v_piece.2 v_far_piece.2).bind fun t2 => (m_order_in (if (decide (0 < t1)) = true then v_piece.1 else v_far_piece.1) (if (decide (t2 < 0)) = true then v_piece.2 else v_far_piece.2)).bind fun t3 => if (decide (t3 = 0)) = true then (some (e_t1t3iii (if (decide (0 < t1)) = true then v_piece.1 else v_far_piece.1))) else (some (if (decide (t3 < 0)) = true then (e_t2t3iiit3iii ((if (decide (0 < t1)) = true then v_piece.1 else v_far_piece.1), (if (decide (t2 < 0)) = true then v_piece.2 else v_far_piece.2))) else (e_t0 ())))
def R_along_in : Rel := fun rs ms r ms2 => ∃ (v_piece : ((Int × Int × Int) × (Int × Int × Int))) (v_far_piece : ((Int × Int × Int) × (Int × Int × Int))), rs = [.dat (e_t2t3iiit3iii v_piece), .dat (e_t2t3iiit3iii v_far_piece)] ∧ ms2 = ms ∧ ∃ v : D, m_along_in v_piece v_far_piece = some v ∧ r = .dat v
theorem kn_along_in (T : Txt K mg) {f : Addr} {fd : FuncData} (Fu : Fun K "along_in" "along_in" s_along_in f fd) (hmf : mg "along_in" = some (.ref f)) (g_order_in : Kn P w K mg base 2 "order_in" R_order_in) : Kn P w K mg base 3 "along_in" R_along_in := by
  have hb := Fu.binds (ps := ["piece", "far_piece"]) fun _ _ _ _ _ _ us hl => match us, hl with | [_, _], _ => rfl
  refine kn_of (kk := 2) Fu sc_along_in hb hmf rfl (by decide) (by rintro rs ms0 r ms ⟨v_piece, v_far_piece, rfl, rfl, v, h, rfl⟩; exact ⟨rfl, rfl⟩) ?_
  rintro rs ms0 r ms ⟨v_piece, v_far_piece, rfl, rfl, v, h, rfl⟩
  show Ex _ _ [.dat (e_t2t3iiit3iii v_piece), .dat (e_t2t3iiit3iii v_far_piece), .un, .un, .un] ms (fun o => Fin ms o (.dat v))
  unfold m_along_in at h
  show Ex _ _ [.dat (e_t2t3iiit3iii v_piece), .dat (e_t2t3iiit3iii v_far_piece), .un, .un, .un] _ _
  obtain ⟨t1, ht1, h⟩ := bindS h
  refine ex_cons (ss_set 2 sc_along_in.nd rfl (Or.inl rfl) (.inl rfl) (fun _ => rfl) (ee_ifV e_t3iii (et_gt (nobehind _ (by decide) (by decide)) (ee_call g_order_in (Nat.le_of_ble_eq_true rfl) (by rfl) (ea_cons (fun _ _ _ p q => pa_cons p q) (ee_ixT (fun X _ _ p q => pe_ix ix_tup p q (fun _ _ => rfl)) (ee_var 0 rfl (Or.inl rfl) rfl) ee_int (by rfl)) (ea_cons (fun _ _ _ p q => pa_cons p q) (ee_ixT (fun X _ _ p q => pe_ix ix_tup p q (fun _ _ => rfl)) (ee_var 1 rfl (Or.inl rfl) rfl) ee_int (by rfl)) ea_nil)) ⟨v_piece.1, v_far_piece.1, rfl, rfl, t1, ht1, rfl⟩ (mu_dat (mu_dat mu_nil))) ee_int) (fun _ => (ee_ixT (fun X _ _ p q => pe_ix ix_tup p q (fun _ _ => rfl)) (ee_var 0 rfl (Or.inl rfl) rfl) ee_int (by rfl))) (fun _ => (ee_ixT (fun X _ _ p q => pe_ix ix_tup p q (fun _ _ => rfl)) (ee_var 1 rfl (Or.inl rfl) rfl) ee_int (by rfl)))) rfl) ?_
  show Ex _ _ [.dat (e_t2t3iiit3iii v_piece), .dat (e_t2t3iiit3iii v_far_piece), .dat (e_t3iii (if (decide (0 < t1)) = true then v_piece.1 else v_far_piece.1)), .un, .un] _ _
  obtain ⟨t2, ht2, h⟩ := bindS h
  refine ex_cons (ss_set 3 sc_along_in.nd rfl (Or.inl rfl) (.inl rfl) (fun _ => rfl) (ee_ifV e_t3iii (et_lt (nobehind _ (by decide) (by decide)) (ee_call g_order_in (Nat.le_of_ble_eq_true rfl) (by rfl) (ea_cons (fun _ _ _ p q => pa_cons p q) (ee_ixT (fun X _ _ p q => pe_ix ix_tup p q (fun _ _ => rfl)) (ee_var 0 rfl (Or.inl rfl) rfl) ee_int (by rfl)) (ea_cons (fun _ _ _ p q => pa_cons p q) (ee_ixT (fun X _ _ p q => pe_ix ix_tup p q (fun _ _ => rfl)) (ee_var 1 rfl (Or.inl rfl) rfl) ee_int (by rfl)) ea_nil)) ⟨v_piece.2, v_far_piece.2, rfl, rfl, t2, ht2, rfl⟩ (mu_dat (mu_dat mu_nil))) ee_int) (fun _ => (ee_ixT (fun X _ _ p q => pe_ix ix_tup p q (fun _ _ => rfl)) (ee_var 0 rfl (Or.inl rfl) rfl) ee_int (by rfl))) (fun _ => (ee_ixT (fun X _ _ p q => pe_ix ix_tup p q (fun _ _ => rfl)) (ee_var 1 rfl (Or.inl rfl) rfl) ee_int (by rfl)))) rfl) ?_
  show Ex _ _ [.dat (e_t2t3iiit3iii v_piece), .dat (e_t2t3iiit3iii v_far_piece), .dat (e_t3iii (if (decide (0 < t1)) = true then v_piece.1 else v_far_piece.1)), .dat (e_t3iii (if (decide (t2 < 0)) = true then v_piece.2 else v_far_piece.2)), .un] _ _
  obtain ⟨t3, ht3, h⟩ := bindS h
  refine ex_cons (ss_set 4 sc_along_in.nd rfl (Or.inl rfl) (.inl rfl) (fun _ => rfl) (ee_call g_order_in (Nat.le_of_ble_eq_true rfl) (by rfl) (ea_cons (fun _ _ _ p q => pa_cons p q) (ee_var 2 rfl (Or.inl rfl) rfl) (ea_cons (fun _ _ _ p q => pa_cons p q) (ee_var 3 rfl (Or.inl rfl) rfl) ea_nil)) ⟨(if (decide (0 < t1)) = true then v_piece.1 else v_far_piece.1), (if (decide (t2 < 0)) = true then v_piece.2 else v_far_piece.2), rfl, rfl, t3, ht3, rfl⟩ (mu_dat (mu_dat mu_nil))) rfl) ?_
  show Ex _ _ [.dat (e_t2t3iiit3iii v_piece), .dat (e_t2t3iiit3iii v_far_piece), .dat (e_t3iii (if (decide (0 < t1)) = true then v_piece.1 else v_far_piece.1)), .dat (e_t3iii (if (decide (t2 < 0)) = true then v_piece.2 else v_far_piece.2)), .dat (.int t3)] _ _
  rcases boolCases (decide (t3 = 0)) with hc4 | hc4
  · have h := iteT' hc4 h
    refine ex_ifT (et_eqI (nobehind _ (by decide) (by decide)) (ee_var 4 rfl (Or.inl rfl) rfl) ee_int) hc4 ?_
    obtain rfl := someS h
    exact ex_out (ss_ret (ee_tup (ea_cons (fun _ _ _ p q => pa_cons p q) (ee_var 2 rfl (Or.inl rfl) rfl) ea_nil) rfl (lnOk 1 rfl (by decide)))) rfl fin_dat
  · have h := iteF' hc4 h
    refine ex_ifF0 (et_eqI (nobehind _ (by decide) (by decide)) (ee_var 4 rfl (Or.inl rfl) rfl) ee_int) hc4 ?_
    obtain rfl := someS h
    exact ex_out (ss_ret (ee_ifV (fun d : D => d) (et_lt (nobehind _ (by decide) (by decide)) (ee_var 4 rfl (Or.inl rfl) rfl) ee_int) (fun _ => (ee_tup (ea_cons (fun _ _ _ p q => pa_cons p q) (ee_var 2 rfl (Or.inl rfl) rfl) (ea_cons (fun _ _ _ p q => pa_cons p q) (ee_var 3 rfl (Or.inl rfl) rfl) ea_nil)) rfl (lnOk 2 rfl (by decide)))) (fun _ => (ee_tup ea_nil rfl (lnOk 0 rfl (by decide)))))) rfl fin_dat

def s_lowest : Stmt := topS 14
def nm_lowest : List Str := ["numbers", "part", "number"]
theorem sc_lowest : FnScope nm_lowest ["numbers"] (defScope s_lowest) := ⟨rfl, rfl, rfl, by decide +kernel, rfl, by decide +kernel, by decide +kernel⟩
def m_lowest (v_numbers : (Int × Int × Int)) : Option ((Int × Int × Int)) := (forS (fun (x2 : Int) (s1 : Int) => (m_common s1 x2).bind fun t5 => some t5) ([v_numbers.1, v_numbers.2.1, v_numbers.2.2] : List Int) 0).bind fun s4 => (szO ([v_numbers.1, v_numbers.2.1, v_numbers.2.2] : List Int)).bind fun t6 => (mapO (fun (x7 : Int) => (divO x7 s4).bind fun t10 => some t10) ([v_numbers.1, v_numbers.2.1, v_numbers.2.2] : List Int)).bind fun t11 => (asN3 t11).bind fun t12 => some t12
def R_lowest : Rel := fun rs ms r ms2 => ∃ (v_numbers : (Int × Int × Int)), rs = [.dat (e_v3iii v_numbers)] ∧ ms2 = ms ∧ ∃ v : (Int × Int × Int), m_lowest v_numbers = some v ∧ r = .dat (e_t3iii v)
theorem kn_lowest (T : Txt K mg) {f : Addr} {fd : FuncData} (Fu : Fun K "lowest" "lowest" s_lowest f fd) (hmf : mg "lowest" = some (.ref f)) (g_common : Kn P w K mg base 1 "common" R_common) : Kn P w K mg base 2 "lowest" R_lowest := by
  have hb := Fu.binds (ps := ["numbers"]) fun _ _ _ _ _ _ us hl => match us, hl with | [_], _ => rfl
  refine kn_of (kk := 1) Fu sc_lowest hb hmf rfl (by decide) (by rintro rs ms0 r ms ⟨v_numbers, rfl, rfl, v, h, rfl⟩; exact ⟨rfl, rfl⟩) ?_
  rintro rs ms0 r ms ⟨v_numbers, rfl, rfl, v, h, rfl⟩
  show Ex _ _ [.dat (e_v3iii v_numbers), .un, .un] ms (fun o => Fin ms o (.dat (e_t3iii v)))
  unfold m_lowest at h
  show Ex _ _ [.dat (e_v3iii v_numbers), .un, .un] _ _
  refine ex_cons (ss_set 1 sc_lowest.nd rfl (Or.inr rfl) (.inl rfl) (fun _ => rfl) ee_int rfl) ?_
  show Ex _ _ [.dat (e_v3iii v_numbers), .dat (.int 0), .un] _ _
  obtain ⟨s4, hs4, h⟩ := bindS h
  refine ex_cons (ss_forS (s0 := 0) PyData.int _ _ (fun s1 : Int => [.dat (e_v3iii v_numbers), .dat (.int s1), .un]) (fun s1 : Int => ms) (ms.length) (fun _ _ => rfl) (it_list (ds := ([v_numbers.1, v_numbers.2.1, v_numbers.2.2] : List Int).map PyData.int) (fun X _ h => pi_list h) (ee_var 0 rfl (Or.inl rfl) rfl) rfl) (fun _ => rfl) (fun _ => rfl) (.cons .dat (.cons .dat (.cons .un .nil)))
    (fun x2 _ s1 s3 h => ⟨_, _, (eg_name 2 sc_lowest.nd rfl (Or.inl rfl) (.inl rfl)), by
      show Ex _ _ [.dat (e_v3iii v_numbers), .dat (.int s1), .dat (.int x2)] _ _
      obtain ⟨t5, ht5, h⟩ := bindS h
      refine ex_cons (ss_set 1 sc_lowest.nd rfl (Or.inr rfl) (.inl rfl) (fun _ => rfl) (ee_call g_common (Nat.le_of_ble_eq_true rfl) (by rfl) (ea_cons (fun _ _ _ p q => pa_cons p q) (ee_var 1 rfl (Or.inr (Or.inl rfl)) rfl) (ea_cons (fun _ _ _ p q => pa_cons p q) (ee_var 2 rfl (Or.inl rfl) rfl) ea_nil)) ⟨s1, x2, rfl, rfl, t5, ht5, rfl⟩ (mu_dat (mu_dat mu_nil))) rfl) ?_
      obtain rfl := someS h
      exact ex_nil (turn_go (.cons .dat (.cons .dat (.cons .un .nil))))
    ⟩) hs4) ?_
  show Ex _ _ [.dat (e_v3iii v_numbers), .dat (.int s4), .un] _ _
  obtain ⟨t6, ht6, h⟩ := bindS h
  obtain ⟨t11, ht11, h⟩ := bindS h
  obtain ⟨t12, ht12, h⟩ := bindS h
  obtain rfl := someS h
  exact ex_out (ss_ret (ee_is (ee_tuple T.tuple (by rfl) (ea_cons (fun _ _ _ p q => pa_cons p q) (ee_lcP [("number", 2)] PyData.int PyData.int ([v_numbers.1, v_numbers.2.1, v_numbers.2.2] : List Int) _ sc_lowest.nd (blkOk_by (N := nm_lowest) (sc := defScope s_lowest) (by decide +kernel)) (fun _ _ => rfl) (it_list (ds := ([v_numbers.1, v_numbers.2.1, v_numbers.2.2] : List Int).map PyData.int) (fun X _ h => pi_list h) (ee_var 0 rfl (Or.inl rfl) rfl) rfl) (fun _ => rfl) (by first | exact Nat.le_refl _ | (simp only [List.length_append, MD_len, List.length_cons, List.length_nil, Sx.blk]; omega)) (fun x7 _ y9 ex g8 => by obtain ⟨t10, ht10, g8⟩ := bindS g8; obtain rfl := someS g8; exact ⟨_, _, by decide, (eg_name 2 sc_lowest.nd rfl (Or.inl rfl) (.inr rfl)), _, (ee_divO (ee_var 2 rfl (Or.inl rfl) rfl) (ee_var 1 rfl (Or.inr (Or.inl rfl)) rfl) ht10), rfl⟩) ht11 (szO_some ht6).1) ea_nil) rfl) (by rw [asN3_some ht12]; rfl))) rfl fin_dat

def s_point_of : Stmt := topS 15
def nm_point_of : List Str := ["x", "y", "w"]
theorem sc_point_of : FnScope nm_point_of ["x", "y", "w"] (defScope s_point_of) := ⟨rfl, rfl, rfl, by decide +kernel, rfl, by decide +kernel, by decide +kernel⟩
def m_point_of (v_x : Int) (v_y : Int) (v_w : Int) : Option ((Int × Int × Int)) := (if (decide (0 < v_w)) = true then ((m_lowest (v_x, v_y, v_w)).bind fun t1 => some t1) else ((m_lowest ((-v_x), (-v_y), (-v_w))).bind fun t2 => some t2)).bind fun t3 => some t3
def R_point_of : Rel := fun rs ms r ms2 => ∃ (v_x : Int) (v_y : Int) (v_w : Int), rs = [.dat (.int v_x), .dat (.int v_y), .dat (.int v_w)] ∧ ms2 = ms ∧ ∃ v : (Int × Int × Int), m_point_of v_x v_y v_w = some v ∧ r = .dat (e_t3iii v)
theorem kn_point_of (T : Txt K mg) {f : Addr} {fd : FuncData} (Fu : Fun K "point_of" "point_of" s_point_of f fd) (hmf : mg "point_of" = some (.ref f)) (g_lowest : Kn P w K mg base 2 "lowest" R_lowest) : Kn P w K mg base 3 "point_of" R_point_of := by
  have hb := Fu.binds (ps := ["x", "y", "w"]) fun _ _ _ _ _ _ us hl => match us, hl with | [_, _, _], _ => rfl
  refine kn_of (kk := 2) Fu sc_point_of hb hmf rfl (by decide) (by rintro rs ms0 r ms ⟨v_x, v_y, v_w, rfl, rfl, v, h, rfl⟩; exact ⟨rfl, rfl⟩) ?_
  rintro rs ms0 r ms ⟨v_x, v_y, v_w, rfl, rfl, v, h, rfl⟩
  show Ex _ _ [.dat (.int v_x), .dat (.int v_y), .dat (.int v_w)] ms (fun o => Fin ms o (.dat (e_t3iii v)))
  unfold m_point_of at h
  show Ex _ _ [.dat (.int v_x), .dat (.int v_y), .dat (.int v_w)] _ _
  obtain ⟨t3, ht3, h⟩ := bindS h
  obtain rfl := someS h
  exact ex_out (ss_ret (ee_ifO e_t3iii (et_gt (nobehind _ (by decide) (by decide)) (ee_var 2 rfl (Or.inl rfl) rfl) ee_int) ht3 (fun _ g4 => by obtain ⟨t1, ht1, g4⟩ := bindS g4; obtain rfl := someS g4; exact (ee_call g_lowest (Nat.le_of_ble_eq_true rfl) (by rfl) (ea_cons (fun _ _ _ p q => pa_cons p q) (ee_lst (ea_cons (fun _ _ _ p q => pa_cons p q) (ee_var 0 rfl (Or.inl rfl) rfl) (ea_cons (fun _ _ _ p q => pa_cons p q) (ee_var 1 rfl (Or.inl rfl) rfl) (ea_cons (fun _ _ _ p q => pa_cons p q) (ee_var 2 rfl (Or.inl rfl) rfl) ea_nil))) rfl (lnOk 3 rfl (by decide))) ea_nil) ⟨(v_x, v_y, v_w), rfl, rfl, t1, ht1, rfl⟩ (mu_dat mu_nil))) (fun _ g5 => by obtain ⟨t2, ht2, g5⟩ := bindS g5; obtain rfl := someS g5; exact (ee_call g_lowest (Nat.le_of_ble_eq_true rfl) (by rfl) (ea_cons (fun _ _ _ p q => pa_cons p q) (ee_lst (ea_cons (fun _ _ _ p q => pa_cons p q) (ee_neg (ee_var 0 rfl (Or.inl rfl) rfl)) (ea_cons (fun _ _ _ p q => pa_cons p q) (ee_neg (ee_var 1 rfl (Or.inl rfl) rfl)) (ea_cons (fun _ _ _ p q => pa_cons p q) (ee_neg (ee_var 2 rfl (Or.inl rfl) rfl)) ea_nil))) rfl (lnOk 3 rfl (by decide))) ea_nil) ⟨((-v_x), (-v_y), (-v_w)), rfl, rfl, t2, ht2, rfl⟩ (mu_dat mu_nil))))) rfl fin_dat

def s_meet_in : Stmt := topS 25
def nm_meet_in : List Str := ["one", "far", "x", "y", "w"]
theorem sc_meet_in : FnScope nm_meet_in ["one", "far"] (defScope s_meet_in) := ⟨rfl, rfl, rfl, by decide +kernel, rfl, by decide +kernel, by decide +kernel⟩
def m_meet_in (v_one : (Int × Int × Int)) (v_far : (Int × Int × Int)) : Option (D) := (m_crossed v_one v_far).bind fun t1 => (if (decide (t1.2.2 ≠ 0)) = true then ((m_point_of t1.1 t1.2.1 t1.2.2).bind fun t2 => some (e_t3iii t2)) else (some .none)).bind fun t3 => some t3
def R_meet_in : Rel := fun rs ms r ms2 => ∃ (v_one : (Int × Int × Int)) (v_far : (Int × Int × Int)), rs = [.dat (e_t3iii v_one), .dat (e_t3iii v_far)] ∧ ms2 = ms ∧ ∃ v : D, m_meet_in v_one v_far = some v ∧ r = .dat v
theorem kn_meet_in (T : Txt K mg) {f : Addr} {fd : FuncData} (Fu : Fun K "meet_in" "meet_in" s_meet_in f fd) (hmf : mg "meet_in" = some (.ref f)) (g_crossed : Kn P w K mg base 1 "crossed" R_crossed) (g_point_of : Kn P w K mg base 3 "point_of" R_point_of) : Kn P w K mg base 4 "meet_in" R_meet_in := by
  have hb := Fu.binds (ps := ["one", "far"]) fun _ _ _ _ _ _ us hl => match us, hl with | [_, _], _ => rfl
  refine kn_of (kk := 3) Fu sc_meet_in hb hmf rfl (by decide) (by rintro rs ms0 r ms ⟨v_one, v_far, rfl, rfl, v, h, rfl⟩; exact ⟨rfl, rfl⟩) ?_
  rintro rs ms0 r ms ⟨v_one, v_far, rfl, rfl, v, h, rfl⟩
  show Ex _ _ [.dat (e_t3iii v_one), .dat (e_t3iii v_far), .un, .un, .un] ms (fun o => Fin ms o (.dat v))
  unfold m_meet_in at h
  show Ex _ _ [.dat (e_t3iii v_one), .dat (e_t3iii v_far), .un, .un, .un] _ _
  obtain ⟨t1, ht1, h⟩ := bindS h
  refine ex_cons (ss_asgS (fun _ => rfl) (fun X hX => (sw_env (env' := env0 (defScope s_meet_in)) hX.sc _ _).trans rfl) (fun _ => rfl) (ee_call g_crossed (Nat.le_of_ble_eq_true rfl) (by rfl) (ea_cons (fun _ _ _ p q => pa_cons p q) (ee_var 0 rfl (Or.inl rfl) rfl) (ea_cons (fun _ _ _ p q => pa_cons p q) (ee_var 1 rfl (Or.inl rfl) rfl) ea_nil)) ⟨v_one, v_far, rfl, rfl, t1, ht1, rfl⟩ (mu_dat (mu_dat mu_nil))) rfl (eg_lst (fun _ => rfl) (fun _ => rfl) (egs_cons (fun _ _ _ p q => pgs_cons p q) (eg_name 2 sc_meet_in.nd rfl (Or.inl rfl) (.inl rfl)) (egs_cons (fun _ _ _ p q => pgs_cons p q) (eg_name 3 sc_meet_in.nd rfl (Or.inl rfl) (.inl rfl)) (egs_cons (fun _ _ _ p q => pgs_cons p q) (eg_name 4 sc_meet_in.nd rfl (Or.inl rfl) (.inl rfl)) egs_nil))))) ?_
  show Ex _ _ [.dat (e_t3iii v_one), .dat (e_t3iii v_far), .dat (.int t1.1), .dat (.int t1.2.1), .dat (.int t1.2.2)] _ _
  obtain ⟨t3, ht3, h⟩ := bindS h
  obtain rfl := someS h
  exact ex_out (ss_ret (ee_ifO (fun d : D => d) (et_neI (nobehind _ (by decide) (by decide)) (ee_var 4 rfl (Or.inl rfl) rfl) ee_int) ht3 (fun _ g4 => by obtain ⟨t2, ht2, g4⟩ := bindS g4; obtain rfl := someS g4; exact (ee_call g_point_of (Nat.le_of_ble_eq_true rfl) (by rfl) (ea_cons (fun _ _ _ p q => pa_cons p q) (ee_var 2 rfl (Or.inl rfl) rfl) (ea_cons (fun _ _ _ p q => pa_cons p q) (ee_var 3 rfl (Or.inl rfl) rfl) (ea_cons (fun _ _ _ p q => pa_cons p q) (ee_var 4 rfl (Or.inl rfl) rfl) ea_nil))) ⟨t1.1, t1.2.1, t1.2.2, rfl, rfl, t2, ht2, rfl⟩ (mu_dat (mu_dat (mu_dat mu_nil))))) (fun _ g5 => by obtain rfl := someS g5; exact ee_none))) rfl fin_dat

def s_line_of : Stmt := topS 16
def nm_line_of : List Str := ["a", "b", "c", "first"]
theorem sc_line_of : FnScope nm_line_of ["a", "b", "c"] (defScope s_line_of) := ⟨rfl, rfl, rfl, by decide +kernel, rfl, by decide +kernel, by decide +kernel⟩
def m_line_of (v_a : Int) (v_b : Int) (v_c : Int) : Option ((Int × Int × Int)) := (if (decide (0 < (if (decide (v_a ≠ 0)) = true then v_a else v_b))) = true then ((m_lowest (v_a, v_b, v_c)).bind fun t1 => some t1) else ((m_lowest ((-v_a), (-v_b), (-v_c))).bind fun t2 => some t2)).bind fun t3 => some t3
def R_line_of : Rel := fun rs ms r ms2 => ∃ (v_a : Int) (v_b : Int) (v_c : Int), rs = [.dat (.int v_a), .dat (.int v_b), .dat (.int v_c)] ∧ ms2 = ms ∧ ∃ v : (Int × Int × Int), m_line_of v_a v_b v_c = some v ∧ r = .dat (e_t3iii v)
theorem kn_line_of (T : Txt K mg) {f : Addr} {fd : FuncData} (Fu : Fun K "line_of" "line_of" s_line_of f fd) (hmf : mg "line_of" = some (.ref f)) (g_lowest : Kn P w K mg base 2 "lowest" R_lowest) : Kn P w K mg base 3 "line_of" R_line_of := by
  have hb := Fu.binds (ps := ["a", "b", "c"]) fun _ _ _ _ _ _ us hl => match us, hl with | [_, _, _], _ => rfl
  refine kn_of (kk := 2) Fu sc_line_of hb hmf rfl (by decide) (by rintro rs ms0 r ms ⟨v_a, v_b, v_c, rfl, rfl, v, h, rfl⟩; exact ⟨rfl, rfl⟩) ?_
  rintro rs ms0 r ms ⟨v_a, v_b, v_c, rfl, rfl, v, h, rfl⟩
  show Ex _ _ [.dat (.int v_a), .dat (.int v_b), .dat (.int v_c), .un] ms (fun o => Fin ms o (.dat (e_t3iii v)))
  unfold m_line_of at h
  show Ex _ _ [.dat (.int v_a), .dat (.int v_b), .dat (.int v_c), .un] _ _
  refine ex_cons (ss_set 3 sc_line_of.nd rfl (Or.inl rfl) (.inl rfl) (fun _ => rfl) (ee_ifV PyData.int (et_neI (nobehind _ (by decide) (by decide)) (ee_var 0 rfl (Or.inl rfl) rfl) ee_int) (fun _ => (ee_var 0 rfl (Or.inl rfl) rfl)) (fun _ => (ee_var 1 rfl (Or.inl rfl) rfl))) rfl) ?_
  show Ex _ _ [.dat (.int v_a), .dat (.int v_b), .dat (.int v_c), .dat (.int (if (decide (v_a ≠ 0)) = true then v_a else v_b))] _ _
  obtain ⟨t3, ht3, h⟩ := bindS h
  obtain rfl := someS h
  exact ex_out (ss_ret (ee_ifO e_t3iii (et_gt (nobehind _ (by decide) (by decide)) (ee_var 3 rfl (Or.inl rfl) rfl) ee_int) ht3 (fun _ g4 => by obtain ⟨t1, ht1, g4⟩ := bindS g4; obtain rfl := someS g4; exact (ee_call g_lowest (Nat.le_of_ble_eq_true rfl) (by rfl) (ea_cons (fun _ _ _ p q => pa_cons p q) (ee_lst (ea_cons (fun _ _ _ p q => pa_cons p q) (ee_var 0 rfl (Or.inl rfl) rfl) (ea_cons (fun _ _ _ p q => pa_cons p q) (ee_var 1 rfl (Or.inl rfl) rfl) (ea_cons (fun _ _ _ p q => pa_cons p q) (ee_var 2 rfl (Or.inl rfl) rfl) ea_nil))) rfl (lnOk 3 rfl (by decide))) ea_nil) ⟨(v_a, v_b, v_c), rfl, rfl, t1, ht1, rfl⟩ (mu_dat mu_nil))) (fun _ g5 => by obtain ⟨t2, ht2, g5⟩ := bindS g5; obtain rfl := someS g5; exact (ee_call g_lowest (Nat.le_of_ble_eq_true rfl) (by rfl) (ea_cons (fun _ _ _ p q => pa_cons p q) (ee_lst (ea_cons (fun _ _ _ p q => pa_cons p q) (ee_neg (ee_var 0 rfl (Or.inl rfl) rfl)) (ea_cons (fun _ _ _ p q => pa_cons p q) (ee_neg (ee_var 1 rfl (Or.inl rfl) rfl)) (ea_cons (fun _ _ _ p q => pa_cons p q) (ee_neg (ee_var 2 rfl (Or.inl rfl) rfl)) ea_nil))) rfl (lnOk 3 rfl (by decide))) ea_nil) ⟨((-v_a), (-v_b), (-v_c)), rfl, rfl, t2, ht2, rfl⟩ (mu_dat mu_nil))))) rfl fin_dat

def s_line_in : Stmt := topS 24
def nm_line_in : List Str := ["one", "far", "a", "b", "c"]
theorem sc_line_in : FnScope nm_line_in ["one", "far"] (defScope s_line_in) := ⟨rfl, rfl, rfl, by decide +kernel, rfl, by decide +kernel, by decide +kernel⟩
def m_line_in (v_one : (Int × Int × Int)) (v_far : (Int × Int × Int)) : Option ((Int × Int × Int)) := (m_crossed v_one v_far).bind fun t1 => (m_line_of t1.1 t1.2.1 t1.2.2).bind fun t2 => some t2
def R_line_in : Rel := fun rs ms r ms2 => ∃ (v_one : (Int × Int × Int)) (v_far : (Int × Int × Int)), rs = [.dat (e_t3iii v_one), .dat (e_t3iii v_far)] ∧ ms2 = ms ∧ ∃ v : (Int × Int × Int), m_line_in v_one v_far = some v ∧ r = .dat (e_t3iii v)
theorem kn_line_in (T : Txt K mg) {f : Addr} {fd : FuncData} (Fu : Fun K "line_in" "line_in" s_line_in f fd) (hmf : mg "line_in" = some (.ref f)) (g_crossed : Kn P w K mg base 1 "crossed" R_crossed) (g_line_of : Kn P w K mg base 3 "line_of" R_line_of) : Kn P w K mg base 4 "line_in" R_line_in := by
  have hb := Fu.binds (ps := ["one", "far"]) fun _ _ _ _ _ _ us hl => match us, hl with | [_, _], _ => rfl
  refine kn_of (kk := 3) Fu sc_line_in hb hmf rfl (by decide) (by rintro rs ms0 r ms ⟨v_one, v_far, rfl, rfl, v, h, rfl⟩; exact ⟨rfl, rfl⟩) ?_
  rintro rs ms0 r ms ⟨v_one, v_far, rfl, rfl, v, h, rfl⟩
  show Ex _ _ [.dat (e_t3iii v_one), .dat (e_t3iii v_far), .un, .un, .un] ms (fun o => Fin ms o (.dat (e_t3iii v)))
  unfold m_line_in at h
  show Ex _ _ [.dat (e_t3iii v_one), .dat (e_t3iii v_far), .un, .un, .un] _ _
  obtain ⟨t1, ht1, h⟩ := bindS h
  refine ex_cons (ss_asgS (fun _ => rfl) (fun X hX => (sw_env (env' := env0 (defScope s_line_in)) hX.sc _ _).trans rfl) (fun _ => rfl) (ee_call g_crossed (Nat.le_of_ble_eq_true rfl) (by rfl) (ea_cons (fun _ _ _ p q => pa_cons p q) (ee_var 0 rfl (Or.inl rfl) rfl) (ea_cons (fun _ _ _ p q => pa_cons p q) (ee_var 1 rfl (Or.inl rfl) rfl) ea_nil)) ⟨v_one, v_far, rfl, rfl, t1, ht1, rfl⟩ (mu_dat (mu_dat mu_nil))) rfl (eg_lst (fun _ => rfl) (fun _ => rfl) (egs_cons (fun _ _ _ p q => pgs_cons p q) (eg_name 2 sc_line_in.nd rfl (Or.inl rfl) (.inl rfl)) (egs_cons (fun _ _ _ p q => pgs_cons p q) (eg_name 3 sc_line_in.nd rfl (Or.inl rfl) (.inl rfl)) (egs_cons (fun _ _ _ p q => pgs_cons p q) (eg_name 4 sc_line_in.nd rfl (Or.inl rfl) (.inl rfl)) egs_nil))))) ?_
  show Ex _ _ [.dat (e_t3iii v_one), .dat (e_t3iii v_far), .dat (.int t1.1), .dat (.int t1.2.1), .dat (.int t1.2.2)] _ _
  obtain ⟨t2, ht2, h⟩ := bindS h
  obtain rfl := someS h
  exact ex_out (ss_ret (ee_call g_line_of (Nat.le_of_ble_eq_true rfl) (by rfl) (ea_cons (fun _ _ _ p q => pa_cons p q) (ee_var 2 rfl (Or.inl rfl) rfl) (ea_cons (fun _ _ _ p q => pa_cons p q) (ee_var 3 rfl (Or.inl rfl) rfl) (ea_cons (fun _ _ _ p q => pa_cons p q) (ee_var 4 rfl (Or.inl rfl) rfl) ea_nil))) ⟨t1.1, t1.2.1, t1.2.2, rfl, rfl, t2, ht2, rfl⟩ (mu_dat (mu_dat (mu_dat mu_nil))))) rfl fin_dat

def s_cross_in : Stmt := topS 29
def nm_cross_in : List Str := ["piece", "far_piece", "a", "b", "c", "d", "first", "second"]
theorem sc_cross_in : FnScope nm_cross_in ["piece", "far_piece"] (defScope s_cross_in) := ⟨rfl, rfl, rfl, by decide +kernel, rfl, by decide +kernel, by decide +kernel⟩
def m_cross_in (v_piece : ((Int × Int × Int) × (Int × Int × Int))) (v_far_piece : ((Int × Int × Int) × (Int × Int × Int))) : Option (D) := (m_turn_in v_piece.1 v_piece.2 v_far_piece.1).bind fun t1 => (m_turn_in v_piece.1 v_piece.2 v_far_piece.2).bind fun t2 => if ((decide (t1 = 0)) && (decide (t2 = 0))) = true then ((m_along_in v_piece v_far_piece).bind fun t4 => some t4) else ((mulO t1 t2).bind fun t5 => (if (decide (0 < t5)) = true then some true else ((m_turn_in v_far_piece.1 v_far_piece.2 v_piece.1).bind fun t6 => (m_turn_in v_far_piece.1 v_far_piece.2 v_piece.2).bind fun t7 => (mulO t6 t7).bind fun t8 => some (decide (0 < t8)))).bind fun t10 => if t10 = true then (some (e_t0 ())) else ((m_line_in v_piece.1 v_piece.2).bind fun t12 => (m_line_in v_far_piece.1 v_far_piece.2).bind fun t13 => (m_meet_in t12 t13).bind fun t14 => some (e_t1d t14)))
def R_cross_in : Rel := fun rs ms r ms2 => ∃ (v_piece : ((Int × Int × Int) × (Int × Int × Int))) (v_far_piece : ((Int × Int × Int) × (Int × Int × Int))), rs = [.dat (e_t2t3iiit3iii v_piece), .dat (e_t2t3iiit3iii v_far_piece)] ∧ ms2 = ms ∧ ∃ v : D, m_cross_in v_piece v_far_piece = some v ∧ r = .dat v
theorem kn_cross_in (T : Txt K mg) {f : Addr} {fd : FuncData} (Fu : Fun K "cross_in" "cross_in" s_cross_in f fd) (hmf : mg "cross_in" = some (.ref f)) (g_turn_in : Kn P w K mg base 2 "turn_in" R_turn_in) (g_along_in : Kn P w K mg base 3 "along_in" R_along_in) (g_meet_in : Kn P w K mg base 4 "meet_in" R_meet_in) (g_line_in : Kn P w K mg base 4 "line_in" R_line_in) : Kn P w K mg base 5 "cross_in" R_cross_in := by
  have hb := Fu.binds (ps := ["piece", "far_piece"]) fun _ _ _ _ _ _ us hl => match us, hl with | [_, _], _ => rfl
  refine kn_of (kk := 4) Fu sc_cross_in hb hmf rfl (by decide) (by rintro rs ms0 r ms ⟨v_piece, v_far_piece, rfl, rfl, v, h, rfl⟩; exact ⟨rfl, rfl⟩) ?_
  rintro rs ms0 r ms ⟨v_piece, v_far_piece, rfl, rfl, v, h, rfl⟩
  show Ex _ _ [.dat (e_t2t3iiit3iii v_piece), .dat (e_t2t3iiit3iii v_far_piece), .un, .un, .un, .un, .un, .un] ms (fun o => Fin ms o (.dat v))
  unfold m_cross_in at h
  show Ex _ _ [.dat (e_t2t3iiit3iii v_piece), .dat (e_t2t3iiit3iii v_far_piece), .un, .un, .un, .un, .un, .un] _ _
  refine ex_cons (ss_asgS (fun _ => rfl) (fun X hX => (sw_env (env' := env0 (defScope s_cross_in)) hX.sc _ _).trans rfl) (fun _ => rfl) (ee_tup (ea_cons (fun _ _ _ p q => pa_cons p q) (ee_var 0 rfl (Or.inl rfl) rfl) (ea_cons (fun _ _ _ p q => pa_cons p q) (ee_var 1 rfl (Or.inl rfl) rfl) ea_nil)) rfl (lnOk 2 rfl (by decide))) rfl (eg_tup (fun _ => rfl) (fun _ => rfl) (egs_cons (fun _ _ _ p q => pgs_cons p q) (eg_tup (fun _ => rfl) (fun _ => rfl) (egs_cons (fun _ _ _ p q => pgs_cons p q) (eg_name 2 sc_cross_in.nd rfl (Or.inl rfl) (.inl rfl)) (egs_cons (fun _ _ _ p q => pgs_cons p q) (eg_name 3 sc_cross_in.nd rfl (Or.inl rfl) (.inl rfl)) egs_nil))) (egs_cons (fun _ _ _ p q => pgs_cons p q) (eg_tup (fun _ => rfl) (fun _ => rfl) (egs_cons (fun _ _ _ p q => pgs_cons p q) (eg_name 4 sc_cross_in.nd rfl (Or.inl rfl) (.inl rfl)) (egs_cons (fun _ _ _ p q => pgs_cons p q) (eg_name 5 sc_cross_in.nd rfl (Or.inl rfl) (.inl rfl)) egs_nil))) egs_nil)))) ?_
  show Ex _ _ [.dat (e_t2t3iiit3iii v_piece), .dat (e_t2t3iiit3iii v_far_piece), .dat (e_t3iii v_piece.1), .dat (e_t3iii v_piece.2), .dat (e_t3iii v_far_piece.1), .dat (e_t3iii v_far_piece.2), .un, .un] _ _
  obtain ⟨t1, ht1, h⟩ := bindS h
  obtain ⟨t2, ht2, h⟩ := bindS h
  refine ex_cons (ss_par 6 7 sc_cross_in.nd rfl rfl (by decide) rfl rfl (fun X hX => (sw_env (env' := env0 (defScope s_cross_in)) hX.sc _ _).trans rfl) (ea_cons (fun _ _ _ p q => pa_cons p q) (ee_call g_turn_in (Nat.le_of_ble_eq_true rfl) (by rfl) (ea_cons (fun _ _ _ p q => pa_cons p q) (ee_var 2 rfl (Or.inl rfl) rfl) (ea_cons (fun _ _ _ p q => pa_cons p q) (ee_var 3 rfl (Or.inl rfl) rfl) (ea_cons (fun _ _ _ p q => pa_cons p q) (ee_var 4 rfl (Or.inl rfl) rfl) ea_nil))) ⟨v_piece.1, v_piece.2, v_far_piece.1, rfl, rfl, t1, ht1, rfl⟩ (mu_dat (mu_dat (mu_dat mu_nil)))) (ea_cons (fun _ _ _ p q => pa_cons p q) (ee_call g_turn_in (Nat.le_of_ble_eq_true rfl) (by rfl) (ea_cons (fun _ _ _ p q => pa_cons p q) (ee_var 2 rfl (Or.inl rfl) rfl) (ea_cons (fun _ _ _ p q => pa_cons p q) (ee_var 3 rfl (Or.inl rfl) rfl) (ea_cons (fun _ _ _ p q => pa_cons p q) (ee_var 5 rfl (Or.inl rfl) rfl) ea_nil))) ⟨v_piece.1, v_piece.2, v_far_piece.2, rfl, rfl, t2, ht2, rfl⟩ (mu_dat (mu_dat (mu_dat mu_nil)))) ea_nil)) rfl rfl) ?_
  show Ex _ _ [.dat (e_t2t3iiit3iii v_piece), .dat (e_t2t3iiit3iii v_far_piece), .dat (e_t3iii v_piece.1), .dat (e_t3iii v_piece.2), .dat (e_t3iii v_far_piece.1), .dat (e_t3iii v_far_piece.2), .dat (.int t1), .dat (.int t2)] _ _
  rcases boolCases ((decide (t1 = 0)) && (decide (t2 = 0))) with hc3 | hc3
  · have h := iteT' hc3 h
    refine ex_ifT (et_w (ew_andV (et_eqI (nobehind _ (by decide) (by decide)) (ee_var 6 rfl (Or.inl rfl) rfl) ee_int) (fun _ => (ew_and1 (et_eqI (nobehind _ (by decide) (by decide)) (ee_var 7 rfl (Or.inl rfl) rfl) ee_int))))) hc3 ?_
    obtain ⟨t4, ht4, h⟩ := bindS h
    obtain rfl := someS h
    exact ex_out (ss_ret (ee_call g_along_in (Nat.le_of_ble_eq_true rfl) (by rfl) (ea_cons (fun _ _ _ p q => pa_cons p q) (ee_var 0 rfl (Or.inl rfl) rfl) (ea_cons (fun _ _ _ p q => pa_cons p q) (ee_var 1 rfl (Or.inl rfl) rfl) ea_nil)) ⟨v_piece, v_far_piece, rfl, rfl, t4, ht4, rfl⟩ (mu_dat (mu_dat mu_nil)))) rfl fin_dat
  · have h := iteF' hc3 h
    refine ex_ifF0 (et_w (ew_andV (et_eqI (nobehind _ (by decide) (by decide)) (ee_var 6 rfl (Or.inl rfl) rfl) ee_int) (fun _ => (ew_and1 (et_eqI (nobehind _ (by decide) (by decide)) (ee_var 7 rfl (Or.inl rfl) rfl) ee_int))))) hc3 ?_
    obtain ⟨t5, ht5, h⟩ := bindS h
    obtain ⟨t10, ht10, h⟩ := bindS h
    rcases boolCases t10 with hc11 | hc11
    · have h := iteT' hc11 h
      refine ex_ifT (et_w (ew_orO (et_gt (nobehind _ (by decide) (by decide)) (ee_mulO (ee_var 6 rfl (Or.inl rfl) rfl) (ee_var 7 rfl (Or.inl rfl) rfl) ht5) ee_int) ht10 (fun _ g9 => by obtain ⟨t6, ht6, g9⟩ := bindS g9; obtain ⟨t7, ht7, g9⟩ := bindS g9; obtain ⟨t8, ht8, g9⟩ := bindS g9; obtain rfl := someS g9; exact (ew_or1 (et_gt (nobehind _ (by decide) (by decide)) (ee_mulO (ee_call g_turn_in (Nat.le_of_ble_eq_true rfl) (by rfl) (ea_cons (fun _ _ _ p q => pa_cons p q) (ee_var 4 rfl (Or.inl rfl) rfl) (ea_cons (fun _ _ _ p q => pa_cons p q) (ee_var 5 rfl (Or.inl rfl) rfl) (ea_cons (fun _ _ _ p q => pa_cons p q) (ee_var 2 rfl (Or.inl rfl) rfl) ea_nil))) ⟨v_far_piece.1, v_far_piece.2, v_piece.1, rfl, rfl, t6, ht6, rfl⟩ (mu_dat (mu_dat (mu_dat mu_nil)))) (ee_call g_turn_in (Nat.le_of_ble_eq_true rfl) (by rfl) (ea_cons (fun _ _ _ p q => pa_cons p q) (ee_var 4 rfl (Or.inl rfl) rfl) (ea_cons (fun _ _ _ p q => pa_cons p q) (ee_var 5 rfl (Or.inl rfl) rfl) (ea_cons (fun _ _ _ p q => pa_cons p q) (ee_var 3 rfl (Or.inl rfl) rfl) ea_nil))) ⟨v_far_piece.1, v_far_piece.2, v_piece.2, rfl, rfl, t7, ht7, rfl⟩ (mu_dat (mu_dat (mu_dat mu_nil)))) ht8) ee_int))))) hc11 ?_
      obtain rfl := someS h
      exact ex_out (ss_ret (ee_tup ea_nil rfl (lnOk 0 rfl (by decide)))) rfl fin_dat
    · have h := iteF' hc11 h
      refine ex_ifF0 (et_w (ew_orO (et_gt (nobehind _ (by decide) (by decide)) (ee_mulO (ee_var 6 rfl (Or.inl rfl) rfl) (ee_var 7 rfl (Or.inl rfl) rfl) ht5) ee_int) ht10 (fun _ g9 => by obtain ⟨t6, ht6, g9⟩ := bindS g9; obtain ⟨t7, ht7, g9⟩ := bindS g9; obtain ⟨t8, ht8, g9⟩ := bindS g9; obtain rfl := someS g9; exact (ew_or1 (et_gt (nobehind _ (by decide) (by decide)) (ee_mulO (ee_call g_turn_in (Nat.le_of_ble_eq_true rfl) (by rfl) (ea_cons (fun _ _ _ p q => pa_cons p q) (ee_var 4 rfl (Or.inl rfl) rfl) (ea_cons (fun _ _ _ p q => pa_cons p q) (ee_var 5 rfl (Or.inl rfl) rfl) (ea_cons (fun _ _ _ p q => pa_cons p q) (ee_var 2 rfl (Or.inl rfl) rfl) ea_nil))) ⟨v_far_piece.1, v_far_piece.2, v_piece.1, rfl, rfl, t6, ht6, rfl⟩ (mu_dat (mu_dat (mu_dat mu_nil)))) (ee_call g_turn_in (Nat.le_of_ble_eq_true rfl) (by rfl) (ea_cons (fun _ _ _ p q => pa_cons p q) (ee_var 4 rfl (Or.inl rfl) rfl) (ea_cons (fun _ _ _ p q => pa_cons p q) (ee_var 5 rfl (Or.inl rfl) rfl) (ea_cons (fun _ _ _ p q => pa_cons p q) (ee_var 3 rfl (Or.inl rfl) rfl) ea_nil))) ⟨v_far_piece.1, v_far_piece.2, v_piece.2, rfl, rfl, t7, ht7, rfl⟩ (mu_dat (mu_dat (mu_dat mu_nil)))) ht8) ee_int))))) hc11 ?_
      obtain ⟨t12, ht12, h⟩ := bindS h
      obtain ⟨t13, ht13, h⟩ := bindS h
      obtain ⟨t14, ht14, h⟩ := bindS h
      obtain rfl := someS h
      exact ex_out (ss_ret (ee_tup (ea_cons (fun _ _ _ p q => pa_cons p q) (ee_call g_meet_in (Nat.le_of_ble_eq_true rfl) (by rfl) (ea_cons (fun _ _ _ p q => pa_cons p q) (ee_call g_line_in (Nat.le_of_ble_eq_true rfl) (by rfl) (ea_cons (fun _ _ _ p q => pa_cons p q) (ee_var 2 rfl (Or.inl rfl) rfl) (ea_cons (fun _ _ _ p q => pa_cons p q) (ee_var 3 rfl (Or.inl rfl) rfl) ea_nil)) ⟨v_piece.1, v_piece.2, rfl, rfl, t12, ht12, rfl⟩ (mu_dat (mu_dat mu_nil))) (ea_cons (fun _ _ _ p q => pa_cons p q) (ee_call g_line_in (Nat.le_of_ble_eq_true rfl) (by rfl) (ea_cons (fun _ _ _ p q => pa_cons p q) (ee_var 4 rfl (Or.inl rfl) rfl) (ea_cons (fun _ _ _ p q => pa_cons p q) (ee_var 5 rfl (Or.inl rfl) rfl) ea_nil)) ⟨v_far_piece.1, v_far_piece.2, rfl, rfl, t13, ht13, rfl⟩ (mu_dat (mu_dat mu_nil))) ea_nil)) ⟨t12, t13, rfl, rfl, t14, ht14, rfl⟩ (mu_dat (mu_dat mu_nil))) ea_nil) rfl (lnOk 1 rfl (by decide)))) rfl fin_dat

def s_do_meet : Stmt := topS 39
def nm_do_meet : List Str := ["corners", "edges", "one", "far", "both"]
theorem sc_do_meet : FnScope nm_do_meet ["corners", "edges", "one", "far"] (defScope s_do_meet) := ⟨rfl, rfl, rfl, by decide +kernel, rfl, by decide +kernel, by decide +kernel⟩
def m_do_meet (v_corners : (List (Int × Int × Int))) (v_edges : (List ((Int × Int × Int) × (Int × Int × Int)))) (v_one : Int) (v_far : Int) : Option (Bool) := (ixO (v_edges : List ((Int × Int × Int) × (Int × Int × Int))) v_one).bind fun t1 => (ixO (v_edges : List ((Int × Int × Int) × (Int × Int × Int))) v_far).bind fun t2 => (m_cross_in t1 t2).bind fun t3 => if ((decide ((v_corners.length : Int) = 3)) || ((decide (v_far = (v_one + 1))) || ((decide (v_one = 0)) && (decide (v_far = ((v_corners.length : Int) - 1)))))) = true then ((tupD t3).bind fun t5 => some (decide ((t5.length : Int) = 2))) else ((eqO t3 (e_t0 ())).bind fun t6 => some (!t6))
def R_do_meet : Rel := fun rs ms r ms2 => ∃ (v_corners : (List (Int × Int × Int))) (v_edges : (List ((Int × Int × Int) × (Int × Int × Int)))) (v_one : Int) (v_far : Int), rs = [.dat (e_ut3iii v_corners), .dat (e_lt2t3iiit3iii v_edges), .dat (.int v_one), .dat (.int v_far)] ∧ ms2 = ms ∧ ∃ v : Bool, m_do_meet v_corners v_edges v_one v_far = some v ∧ r = .dat (.bool v)
theorem kn_do_meet (T : Txt K mg) {f : Addr} {fd : FuncData} (Fu : Fun K "do_meet" "do_meet" s_do_meet f fd) (hmf : mg "do_meet" = some (.ref f)) (g_cross_in : Kn P w K mg base 5 "cross_in" R_cross_in) : Kn P w K mg base 6 "do_meet" R_do_meet := by
  have hb := Fu.binds (ps := ["corners", "edges", "one", "far"]) fun _ _ _ _ _ _ us hl => match us, hl with | [_, _, _, _], _ => rfl
  refine kn_of (kk := 5) Fu sc_do_meet hb hmf rfl (by decide) (by rintro rs ms0 r ms ⟨v_corners, v_edges, v_one, v_far, rfl, rfl, v, h, rfl⟩; exact ⟨rfl, rfl⟩) ?_
  rintro rs ms0 r ms ⟨v_corners, v_edges, v_one, v_far, rfl, rfl, v, h, rfl⟩
  show Ex _ _ [.dat (e_ut3iii v_corners), .dat (e_lt2t3iiit3iii v_edges), .dat (.int v_one), .dat (.int v_far), .un] ms (fun o => Fin ms o (.dat (.bool v)))
  unfold m_do_meet at h
  show Ex _ _ [.dat (e_ut3iii v_corners), .dat (e_lt2t3iiit3iii v_edges), .dat (.int v_one), .dat (.int v_far), .un] _ _
  obtain ⟨t1, ht1, h⟩ := bindS h
  obtain ⟨t2, ht2, h⟩ := bindS h
  obtain ⟨t3, ht3, h⟩ := bindS h
  refine ex_cons (ss_set 4 sc_do_meet.nd rfl (Or.inl rfl) (.inl rfl) (fun _ => rfl) (ee_call g_cross_in (Nat.le_of_ble_eq_true rfl) (by rfl) (ea_cons (fun _ _ _ p q => pa_cons p q) (ee_ixL (fun X _ _ p q => pe_ix ix_list p q (fun _ _ => rfl)) (ee_var 1 rfl (Or.inl rfl) rfl) (ee_var 2 rfl (Or.inl rfl) rfl) rfl (atI_map e_t2t3iiit3iii ht1)) (ea_cons (fun _ _ _ p q => pa_cons p q) (ee_ixL (fun X _ _ p q => pe_ix ix_list p q (fun _ _ => rfl)) (ee_var 1 rfl (Or.inl rfl) rfl) (ee_var 3 rfl (Or.inl rfl) rfl) rfl (atI_map e_t2t3iiit3iii ht2)) ea_nil)) ⟨t1, t2, rfl, rfl, t3, ht3, rfl⟩ (mu_dat (mu_dat mu_nil))) rfl) ?_
  show Ex _ _ [.dat (e_ut3iii v_corners), .dat (e_lt2t3iiit3iii v_edges), .dat (.int v_one), .dat (.int v_far), .dat t3] _ _
  rcases boolCases ((decide ((v_corners.length : Int) = 3)) || ((decide (v_far = (v_one + 1))) || ((decide (v_one = 0)) && (decide (v_far = ((v_corners.length : Int) - 1)))))) with hc4 | hc4
  · have h := iteT' hc4 h
    refine ex_ifT (et_w (ew_orV (et_eqI (nobehind _ (by decide) (by decide)) (ee_is (ee_lenT T.len (by rfl) (ea_cons (fun _ _ _ p q => pa_cons p q) (ee_var 0 rfl (Or.inl rfl) rfl) ea_nil)) (by rw [List.length_map])) ee_int) (fun _ => (ew_orV (et_eqI (nobehind _ (by decide) (by decide)) (ee_var 3 rfl (Or.inl rfl) rfl) (ee_add (ee_var 2 rfl (Or.inl rfl) rfl) ee_int)) (fun _ => (ew_or1 (et_w (ew_andV (et_eqI (nobehind _ (by decide) (by decide)) (ee_var 2 rfl (Or.inl rfl) rfl) ee_int) (fun _ => (ew_and1 (et_eqI (nobehind _ (by decide) (by decide)) (ee_var 3 rfl (Or.inl rfl) rfl) (ee_sub (ee_is (ee_lenT T.len (by rfl) (ea_cons (fun _ _ _ p q => pa_cons p q) (ee_var 0 rfl (Or.inl rfl) rfl) ea_nil)) (by rw [List.length_map])) ee_int)))))))))))) hc4 ?_
    obtain ⟨t5, ht5, h⟩ := bindS h
    obtain rfl := someS h
    exact ex_out (ss_ret (ee_eqI (nobehind _ (by decide) (by decide)) (ee_lenT T.len (by rfl) (ea_cons (fun _ _ _ p q => pa_cons p q) (ee_is (ee_var 4 rfl (Or.inl rfl) rfl) (by rw [tupD_some ht5])) ea_nil)) ee_int)) rfl fin_dat
  · have h := iteF' hc4 h
    refine ex_ifF0 (et_w (ew_orV (et_eqI (nobehind _ (by decide) (by decide)) (ee_is (ee_lenT T.len (by rfl) (ea_cons (fun _ _ _ p q => pa_cons p q) (ee_var 0 rfl (Or.inl rfl) rfl) ea_nil)) (by rw [List.length_map])) ee_int) (fun _ => (ew_orV (et_eqI (nobehind _ (by decide) (by decide)) (ee_var 3 rfl (Or.inl rfl) rfl) (ee_add (ee_var 2 rfl (Or.inl rfl) rfl) ee_int)) (fun _ => (ew_or1 (et_w (ew_andV (et_eqI (nobehind _ (by decide) (by decide)) (ee_var 2 rfl (Or.inl rfl) rfl) ee_int) (fun _ => (ew_and1 (et_eqI (nobehind _ (by decide) (by decide)) (ee_var 3 rfl (Or.inl rfl) rfl) (ee_sub (ee_is (ee_lenT T.len (by rfl) (ea_cons (fun _ _ _ p q => pa_cons p q) (ee_var 0 rfl (Or.inl rfl) rfl) ea_nil)) (by rw [List.length_map])) ee_int)))))))))))) hc4 ?_
    obtain ⟨t6, ht6, h⟩ := bindS h
    obtain rfl := someS h
    exact ex_out (ss_ret (ee_neO (nobehind _ (by decide) (by decide)) (ee_var 4 rfl (Or.inl rfl) rfl) (ee_tup ea_nil rfl (lnOk 0 rfl (by decide))) rfl rfl ht6)) rfl fin_dat

def s_meets_in : Stmt := topS 40
def nm_meets_in : List Str := ["corners", "edges", "found", "far", "one"]
theorem sc_meets_in : FnScope nm_meets_in ["corners"] (defScope s_meets_in) := ⟨rfl, rfl, rfl, by decide +kernel, rfl, by decide +kernel, by decide +kernel⟩
def m_meets_in (v_corners : (List (Int × Int × Int))) : Option ((List (Int × Int))) := (m_edges_in v_corners).bind fun t1 => (rgO (v_corners.length : Int)).bind fun t2 => (forS (fun (x4 : Int) (s3 : (List (Int × Int))) => (rgO x4).bind fun t7 => (szO t7).bind fun t8 => (fmO (β := (Int × Int)) (fun (x9 : Int) => (m_do_meet v_corners t1 x9 x4).bind fun t12 => if t12 = true then (some (some (x9, x4))) else some none) t7).bind fun t15 => (catO s3 t15).bind fun t16 => some t16) t2 []).bind fun s6 => (sorted0 s6).bind fun t17 => some t17
def R_meets_in : Rel := fun rs ms r ms2 => ∃ (v_corners : (List (Int × Int × Int))), rs = [.dat (e_ut3iii v_corners)] ∧ ms2 = ms ∧ ∃ v : (List (Int × Int)), m_meets_in v_corners = some v ∧ r = .new (v.map e_t2ii)
theorem kn_meets_in (T : Txt K mg) {f : Addr} {fd : FuncData} (Fu : Fun K "meets_in" "meets_in" s_meets_in f fd) (hmf : mg "meets_in" = some (.ref f)) (g_edges_in : Kn P w K mg base 4 "edges_in" R_edges_in) (g_do_meet : Kn P w K mg base 6 "do_meet" R_do_meet) : Kn P w K mg base 7 "meets_in" R_meets_in := by
  have hb := Fu.binds (ps := ["corners"]) fun _ _ _ _ _ _ us hl => match us, hl with | [_], _ => rfl
  refine kn_of (kk := 6) Fu sc_meets_in hb hmf rfl (by decide) (by rintro rs ms0 r ms ⟨v_corners, rfl, rfl, v, h, rfl⟩; exact ⟨rfl, rfl⟩) ?_
  rintro rs ms0 r ms ⟨v_corners, rfl, rfl, v, h, rfl⟩
  show Ex _ _ [.dat (e_ut3iii v_corners), .un, .un, .un, .un] ms (fun o => Fin ms o (.new (v.map e_t2ii)))
  unfold m_meets_in at h
  show Ex _ _ [.dat (e_ut3iii v_corners), .un, .un, .un, .un] _ _
  obtain ⟨t1, ht1, h⟩ := bindS h
  refine ex_cons (ss_asg_do 1 2 sc_meets_in.nd rfl rfl (Or.inr rfl) (Or.inl rfl) (.inl rfl) (.inl rfl) (fun _ => rfl) (fun X hX => (sw_env (env' := env0 (defScope s_meets_in)) hX.sc _ _).trans rfl) (fun X _ _ p q => pa_cons p (pa_cons q pa_nil)) (ee_call g_edges_in (Nat.le_of_ble_eq_true rfl) (by rfl) (ea_cons (fun _ _ _ p q => pa_cons p q) (ee_var 0 rfl (Or.inr (Or.inl rfl)) rfl) ea_nil) ⟨v_corners, rfl, rfl, t1, ht1, rfl⟩ (mu_dat mu_nil)) rfl (eep_lst eap_nil rfl (lnOk 0 rfl (by decide))) (ms.length + 0) rfl) ?_
  show Ex _ _ [.dat (e_ut3iii v_corners), .dat (e_lt2t3iiit3iii t1), .mu (ms.length + 0), .un, .un] _ _
  obtain ⟨t2, ht2, h⟩ := bindS h
  obtain ⟨s6, hs6, h⟩ := bindS h
  refine ex_cons (ss_forS (s0 := []) PyData.int _ _ (fun s3 : (List (Int × Int)) => [.dat (e_ut3iii v_corners), .dat (e_lt2t3iiit3iii t1), .mu (ms.length + 0), .un, .un]) (fun s3 : (List (Int × Int)) => (ms ++ [(s3.map e_t2ii)])) (ms.length + 1) (fun _ _ => rfl) (it_rngO T.range (by rfl) (fun X _ h1 h2 h3 => pi_range1 h2 h3 h1) (ea_cons (fun _ _ _ p q => pa_cons p q) (ee_is (ee_lenT T.len (by rfl) (ea_cons (fun _ _ _ p q => pa_cons p q) (ee_var 0 rfl (Or.inr (Or.inl rfl)) rfl) ea_nil)) (by rw [List.length_map])) ea_nil) ht2) (fun _ => trivial) (fun _ => lenA1) (.cons .dat (.cons .dat (.cons (.mu (by first | omega | (simp only [List.length_append, MD_len, List.length_cons, List.length_nil, Sx.blk]; omega))) (.cons .un (.cons .un .nil)))))
    (fun x4 _ s3 s5 h => ⟨_, _, (eg_name 3 sc_meets_in.nd rfl (Or.inr rfl) (.inl rfl)), by
      show Ex _ _ [.dat (e_ut3iii v_corners), .dat (e_lt2t3iiit3iii t1), .mu (ms.length + 0), .dat (.int x4), .un] _ _
      obtain ⟨t7, ht7, h⟩ := bindS h
      obtain ⟨t8, ht8, h⟩ := bindS h
      obtain ⟨t15, ht15, h⟩ := bindS h
      obtain ⟨t16, ht16, h⟩ := bindS h
      refine ex_cons (ss_extP (j := 0) e_t2ii (fun X _ _ p q => pe_bm PySem.F.plainAttrs_list PySem.F.slot_list_extend PySem.F.type_list_extend mt_extend p q) (fun _ => rfl) (ee_mu 2 rfl (Or.inl rfl) rfl) (ea_cons (fun _ _ _ p q => pa_cons p q) (ee_lcF [("one", 4)] PyData.int e_t2ii t7 _ sc_meets_in.nd (blkOk_by (N := nm_meets_in) (sc := defScope s_meets_in) (by decide +kernel)) (fun _ _ => rfl) (it_rngO T.range (by rfl) (fun X _ h1 h2 h3 => pi_range1 h2 h3 h1) (ea_cons (fun _ _ _ p q => pa_cons p q) (ee_var 3 rfl (Or.inr (Or.inl rfl)) rfl) ea_nil) ht7) (fun _ => trivial) (by first | exact Nat.le_refl _ | (simp only [List.length_append, MD_len, List.length_cons, List.length_nil, Sx.blk]; omega)) (fun x9 _ o13 ex g10 => by (obtain ⟨t12, ht12, g10⟩ := bindS g10; exact (boolCases t12).elim (fun hc14 => by (have g10 := iteT' hc14 g10; obtain rfl := someS g10; exact ⟨_, _, by decide, (eg_name 4 sc_meets_in.nd rfl (Or.inl rfl) (.inr rfl)), _, (et_val (fun _ _ => rfl) (ee_call g_do_meet (Nat.le_of_ble_eq_true rfl) (by rfl) (ea_cons (fun _ _ _ p q => pa_cons p q) (ee_var 0 rfl (Or.inr (Or.inl rfl)) rfl) (ea_cons (fun _ _ _ p q => pa_cons p q) (ee_var 1 rfl (Or.inr (Or.inl rfl)) rfl) (ea_cons (fun _ _ _ p q => pa_cons p q) (ee_var 4 rfl (Or.inl rfl) rfl) (ea_cons (fun _ _ _ p q => pa_cons p q) (ee_var 3 rfl (Or.inr (Or.inl rfl)) rfl) ea_nil)))) ⟨v_corners, t1, x9, x4, rfl, rfl, t12, ht12, rfl⟩ (mu_dat (mu_dat (mu_dat (mu_dat mu_nil)))))), hc14, fun _ q => ⟨_, (ee_tup (ea_cons (fun _ _ _ p q => pa_cons p q) (ee_var 4 rfl (Or.inl rfl) rfl) (ea_cons (fun _ _ _ p q => pa_cons p q) (ee_var 3 rfl (Or.inr (Or.inl rfl)) rfl) ea_nil)) rfl (lnOk 2 rfl (by decide))), by cases q; rfl⟩⟩)) (fun hc14 => by (obtain rfl := someS (iteF' hc14 g10); exact ⟨_, _, by decide, (eg_name 4 sc_meets_in.nd rfl (Or.inl rfl) (.inr rfl)), _, (et_val (fun _ _ => rfl) (ee_call g_do_meet (Nat.le_of_ble_eq_true rfl) (by rfl) (ea_cons (fun _ _ _ p q => pa_cons p q) (ee_var 0 rfl (Or.inr (Or.inl rfl)) rfl) (ea_cons (fun _ _ _ p q => pa_cons p q) (ee_var 1 rfl (Or.inr (Or.inl rfl)) rfl) (ea_cons (fun _ _ _ p q => pa_cons p q) (ee_var 4 rfl (Or.inl rfl) rfl) (ea_cons (fun _ _ _ p q => pa_cons p q) (ee_var 3 rfl (Or.inr (Or.inl rfl)) rfl) ea_nil)))) ⟨v_corners, t1, x9, x4, rfl, rfl, t12, ht12, rfl⟩ (mu_dat (mu_dat (mu_dat (mu_dat mu_nil)))))), hc14, fun _ q => nomatch q⟩)))) ht15 (szO_some ht8).1) ea_nil) rfl ht16 (by first | exact Nat.le_refl _ | (simp only [List.length_append, MD_len, List.length_cons, List.length_nil, Sx.blk]; omega)) rfl) ?_
      obtain rfl := someS h
      exact ex_nil (turn_go (.cons .dat (.cons .dat (.cons (.mu (by first | omega | (simp only [List.length_append, MD_len, List.length_cons, List.length_nil, Sx.blk]; omega))) (.cons .un (.cons .un .nil))))))
    ⟩) hs6) ?_
  obtain ⟨t17, ht17, h⟩ := bindS h
  obtain rfl := someS h
  exact ex_out (ss_ret (ee_sorted0 e_t2ii T.sorted (by rfl) (ea_cons (fun _ _ _ p q => pa_cons p q) (ee_mu 2 rfl (Or.inl rfl) rfl) ea_nil) (by rw [lresMu, lkP]; rfl) ht17)) rfl .new

def s_fraction_in : Stmt := topS 11
def nm_fraction_in : List Str := ["above", "below", "part"]
theorem sc_fraction_in : FnScope nm_fraction_in ["above", "below"] (defScope s_fraction_in) := ⟨rfl, rfl, rfl, by decide +kernel, rfl, by decide +kernel, by decide +kernel⟩
def m_fraction_in (v_above : Int) (v_below : Int) : Option ((Int × Int)) := (m_common v_above v_below).bind fun t1 => (divO v_above (if (decide (v_below < 0)) = true then (-t1) else t1)).bind fun t2 => (divO v_below (if (decide (v_below < 0)) = true then (-t1) else t1)).bind fun t3 => some (t2, t3)
def R_fraction_in : Rel := fun rs ms r ms2 => ∃ (v_above : Int) (v_below : Int), rs = [.dat (.int v_above), .dat (.int v_below)] ∧ ms2 = ms ∧ ∃ v : (Int × Int), m_fraction_in v_above v_below = some v ∧ r = .dat (e_t2ii v)
theorem kn_fraction_in (T : Txt K mg) {f : Addr} {fd : FuncData} (Fu : Fun K "fraction_in" "fraction_in" s_fraction_in f fd) (hmf : mg "fraction_in" = some (.ref f)) (g_common : Kn P w K mg base 1 "common" R_common) : Kn P w K mg base 2 "fraction_in" R_fraction_in := by
  have hb := Fu.binds (ps := ["above", "below"]) fun _ _ _ _ _ _ us hl => match us, hl with | [_, _], _ => rfl
  refine kn_of (kk := 1) Fu sc_fraction_in hb hmf rfl (by decide) (by rintro rs ms0 r ms ⟨v_above, v_below, rfl, rfl, v, h, rfl⟩; exact ⟨rfl, rfl⟩) ?_
  rintro rs ms0 r ms ⟨v_above, v_below, rfl, rfl, v, h, rfl⟩
  show Ex _ _ [.dat (.int v_above), .dat (.int v_below), .un] ms (fun o => Fin ms o (.dat (e_t2ii v)))
  unfold m_fraction_in at h
  show Ex _ _ [.dat (.int v_above), .dat (.int v_below), .un] _ _
  obtain ⟨t1, ht1, h⟩ := bindS h
  refine ex_cons (ss_set 2 sc_fraction_in.nd rfl (Or.inl rfl) (.inl rfl) (fun _ => rfl) (ee_call g_common (Nat.le_of_ble_eq_true rfl) (by rfl) (ea_cons (fun _ _ _ p q => pa_cons p q) (ee_var 0 rfl (Or.inl rfl) rfl) (ea_cons (fun _ _ _ p q => pa_cons p q) (ee_var 1 rfl (Or.inl rfl) rfl) ea_nil)) ⟨v_above, v_below, rfl, rfl, t1, ht1, rfl⟩ (mu_dat (mu_dat mu_nil))) rfl) ?_
  show Ex _ _ [.dat (.int v_above), .dat (.int v_below), .dat (.int t1)] _ _
  refine ex_cons (ss_set 2 sc_fraction_in.nd rfl (Or.inl rfl) (.inl rfl) (fun _ => rfl) (ee_ifV PyData.int (et_lt (nobehind _ (by decide) (by decide)) (ee_var 1 rfl (Or.inl rfl) rfl) ee_int) (fun _ => (ee_neg (ee_var 2 rfl (Or.inl rfl) rfl))) (fun _ => (ee_var 2 rfl (Or.inl rfl) rfl))) rfl) ?_
  show Ex _ _ [.dat (.int v_above), .dat (.int v_below), .dat (.int (if (decide (v_below < 0)) = true then (-t1) else t1))] _ _
  obtain ⟨t2, ht2, h⟩ := bindS h
  obtain ⟨t3, ht3, h⟩ := bindS h
  obtain rfl := someS h
  exact ex_out (ss_ret (ee_tup (ea_cons (fun _ _ _ p q => pa_cons p q) (ee_divO (ee_var 0 rfl (Or.inl rfl) rfl) (ee_var 2 rfl (Or.inl rfl) rfl) ht2) (ea_cons (fun _ _ _ p q => pa_cons p q) (ee_divO (ee_var 1 rfl (Or.inl rfl) rfl) (ee_var 2 rfl (Or.inl rfl) rfl) ht3) ea_nil)) rfl (lnOk 2 rfl (by decide)))) rfl fin_dat

def s_added : Stmt := topS 12
def nm_added : List Str := ["one", "far"]
theorem sc_added : FnScope nm_added ["one", "far"] (defScope s_added) := ⟨rfl, rfl, rfl, by decide +kernel, rfl, by decide +kernel, by decide +kernel⟩
def m_added (v_one : (Int × Int)) (v_far : (Int × Int)) : Option ((Int × Int)) := (mulO v_one.1 v_far.2).bind fun t1 => (mulO v_far.1 v_one.2).bind fun t2 => (mulO v_one.2 v_far.2).bind fun t3 => (m_fraction_in (t1 + t2) t3).bind fun t4 => some t4
def R_added : Rel := fun rs ms r ms2 => ∃ (v_one : (Int × Int)) (v_far : (Int × Int)), rs = [.dat (e_t2ii v_one), .dat (e_t2ii v_far)] ∧ ms2 = ms ∧ ∃ v : (Int × Int), m_added v_one v_far = some v ∧ r = .dat (e_t2ii v)
theorem kn_added (T : Txt K mg) {f : Addr} {fd : FuncData} (Fu : Fun K "added" "added" s_added f fd) (hmf : mg "added" = some (.ref f)) (g_fraction_in : Kn P w K mg base 2 "fraction_in" R_fraction_in) : Kn P w K mg base 3 "added" R_added := by
  have hb := Fu.binds (ps := ["one", "far"]) fun _ _ _ _ _ _ us hl => match us, hl with | [_, _], _ => rfl
  refine kn_of (kk := 2) Fu sc_added hb hmf rfl (by decide) (by rintro rs ms0 r ms ⟨v_one, v_far, rfl, rfl, v, h, rfl⟩; exact ⟨rfl, rfl⟩) ?_
  rintro rs ms0 r ms ⟨v_one, v_far, rfl, rfl, v, h, rfl⟩
  show Ex _ _ [.dat (e_t2ii v_one), .dat (e_t2ii v_far)] ms (fun o => Fin ms o (.dat (e_t2ii v)))
  unfold m_added at h
  show Ex _ _ [.dat (e_t2ii v_one), .dat (e_t2ii v_far)] _ _
  obtain ⟨t1, ht1, h⟩ := bindS h
  obtain ⟨t2, ht2, h⟩ := bindS h
  obtain ⟨t3, ht3, h⟩ := bindS h
  obtain ⟨t4, ht4, h⟩ := bindS h
  obtain rfl := someS h
  exact ex_out (ss_ret (ee_call g_fraction_in (Nat.le_of_ble_eq_true rfl) (by rfl) (ea_cons (fun _ _ _ p q => pa_cons p q) (ee_add (ee_mulO (ee_ixT (fun X _ _ p q => pe_ix ix_tup p q (fun _ _ => rfl)) (ee_var 0 rfl (Or.inl rfl) rfl) ee_int (by rfl)) (ee_ixT (fun X _ _ p q => pe_ix ix_tup p q (fun _ _ => rfl)) (ee_var 1 rfl (Or.inl rfl) rfl) ee_int (by rfl)) ht1) (ee_mulO (ee_ixT (fun X _ _ p q => pe_ix ix_tup p q (fun _ _ => rfl)) (ee_var 1 rfl (Or.inl rfl) rfl) ee_int (by rfl)) (ee_ixT (fun X _ _ p q => pe_ix ix_tup p q (fun _ _ => rfl)) (ee_var 0 rfl (Or.inl rfl) rfl) ee_int (by rfl)) ht2)) (ea_cons (fun _ _ _ p q => pa_cons p q) (ee_mulO (ee_ixT (fun X _ _ p q => pe_ix ix_tup p q (fun _ _ => rfl)) (ee_var 0 rfl (Or.inl rfl) rfl) ee_int (by rfl)) (ee_ixT (fun X _ _ p q => pe_ix ix_tup p q (fun _ _ => rfl)) (ee_var 1 rfl (Or.inl rfl) rfl) ee_int (by rfl)) ht3) ea_nil)) ⟨(t1 + t2), t3, rfl, rfl, t4, ht4, rfl⟩ (mu_dat (mu_dat mu_nil)))) rfl fin_dat

def s_area_in : Stmt := topS 21
def nm_area_in : List Str := ["one", "far", "third"]
theorem sc_area_in : FnScope nm_area_in ["one", "far", "third"] (defScope s_area_in) := ⟨rfl, rfl, rfl, by decide +kernel, rfl, by decide +kernel, by decide +kernel⟩
def m_area_in (v_one : (Int × Int × Int)) (v_far : (Int × Int × Int)) (v_third : (Int × Int × Int)) : Option ((Int × Int)) := (m_crossed v_one v_far).bind fun t1 => (m_dotted t1 v_third).bind fun t2 => (mulO v_one.2.2 v_far.2.2).bind fun t3 => (mulO t3 v_third.2.2).bind fun t4 => (m_fraction_in t2 t4).bind fun t5 => some t5
def R_area_in : Rel := fun rs ms r ms2 => ∃ (v_one : (Int × Int × Int)) (v_far : (Int × Int × Int)) (v_third : (Int × Int × Int)), rs = [.dat (e_t3iii v_one), .dat (e_t3iii v_far), .dat (e_t3iii v_third)] ∧ ms2 = ms ∧ ∃ v : (Int × Int), m_area_in v_one v_far v_third = some v ∧ r = .dat (e_t2ii v)
theorem kn_area_in (T : Txt K mg) {f : Addr} {fd : FuncData} (Fu : Fun K "area_in" "area_in" s_area_in f fd) (hmf : mg "area_in" = some (.ref f)) (g_fraction_in : Kn P w K mg base 2 "fraction_in" R_fraction_in) (g_dotted : Kn P w K mg base 1 "dotted" R_dotted) (g_crossed : Kn P w K mg base 1 "crossed" R_crossed) : Kn P w K mg base 3 "area_in" R_area_in := by
  have hb := Fu.binds (ps := ["one", "far", "third"]) fun _ _ _ _ _ _ us hl => match us, hl with | [_, _, _], _ => rfl
  refine kn_of (kk := 2) Fu sc_area_in hb hmf rfl (by decide) (by rintro rs ms0 r ms ⟨v_one, v_far, v_third, rfl, rfl, v, h, rfl⟩; exact ⟨rfl, rfl⟩) ?_
  rintro rs ms0 r ms ⟨v_one, v_far, v_third, rfl, rfl, v, h, rfl⟩
  show Ex _ _ [.dat (e_t3iii v_one), .dat (e_t3iii v_far), .dat (e_t3iii v_third)] ms (fun o => Fin ms o (.dat (e_t2ii v)))
  unfold m_area_in at h
  show Ex _ _ [.dat (e_t3iii v_one), .dat (e_t3iii v_far), .dat (e_t3iii v_third)] _ _
  obtain ⟨t1, ht1, h⟩ := bindS h
  obtain ⟨t2, ht2, h⟩ := bindS h
  obtain ⟨t3, ht3, h⟩ := bindS h
  obtain ⟨t4, ht4, h⟩ := bindS h
  obtain ⟨t5, ht5, h⟩ := bindS h
  obtain rfl := someS h
  exact ex_out (ss_ret (ee_call g_fraction_in (Nat.le_of_ble_eq_true rfl) (by rfl) (ea_cons (fun _ _ _ p q => pa_cons p q) (ee_call g_dotted (Nat.le_of_ble_eq_true rfl) (by rfl) (ea_cons (fun _ _ _ p q => pa_cons p q) (ee_call g_crossed (Nat.le_of_ble_eq_true rfl) (by rfl) (ea_cons (fun _ _ _ p q => pa_cons p q) (ee_var 0 rfl (Or.inl rfl) rfl) (ea_cons (fun _ _ _ p q => pa_cons p q) (ee_var 1 rfl (Or.inl rfl) rfl) ea_nil)) ⟨v_one, v_far, rfl, rfl, t1, ht1, rfl⟩ (mu_dat (mu_dat mu_nil))) (ea_cons (fun _ _ _ p q => pa_cons p q) (ee_var 2 rfl (Or.inl rfl) rfl) ea_nil)) ⟨t1, v_third, rfl, rfl, t2, ht2, rfl⟩ (mu_dat (mu_dat mu_nil))) (ea_cons (fun _ _ _ p q => pa_cons p q) (ee_mulO (ee_mulO (ee_ixT (fun X _ _ p q => pe_ix ix_tup p q (fun _ _ => rfl)) (ee_var 0 rfl (Or.inl rfl) rfl) ee_int (by rfl)) (ee_ixT (fun X _ _ p q => pe_ix ix_tup p q (fun _ _ => rfl)) (ee_var 1 rfl (Or.inl rfl) rfl) ee_int (by rfl)) ht3) (ee_ixT (fun X _ _ p q => pe_ix ix_tup p q (fun _ _ => rfl)) (ee_var 2 rfl (Or.inl rfl) rfl) ee_int (by rfl)) ht4) ea_nil)) ⟨t2, t4, rfl, rfl, t5, ht5, rfl⟩ (mu_dat (mu_dat mu_nil)))) rfl fin_dat

def s_area_of : Stmt := topS 41
def nm_area_of : List Str := ["corners", "found", "at"]
theorem sc_area_of : FnScope nm_area_of ["corners"] (defScope s_area_of) := ⟨rfl, rfl, rfl, by decide +kernel, rfl, by decide +kernel, by decide +kernel⟩
def m_area_of (v_corners : (List (Int × Int × Int))) : Option ((Int × Int)) := (rg2O 1 ((v_corners.length : Int) - 1)).bind fun t1 => (forS (fun (x3 : Int) (s2 : (Int × Int)) => (ixO (v_corners : List (Int × Int × Int)) 0).bind fun t6 => (ixO (v_corners : List (Int × Int × Int)) x3).bind fun t7 => (ixO (v_corners : List (Int × Int × Int)) (x3 + 1)).bind fun t8 => (m_area_in t6 t7 t8).bind fun t9 => (m_added s2 t9).bind fun t10 => some t10) t1 (0, 1)).bind fun s5 => some s5
def R_area_of : Rel := fun rs ms r ms2 => ∃ (v_corners : (List (Int × Int × Int))), rs = [.dat (e_ut3iii v_corners)] ∧ ms2 = ms ∧ ∃ v : (Int × Int), m_area_of v_corners = some v ∧ r = .dat (e_t2ii v)
theorem kn_area_of (T : Txt K mg) {f : Addr} {fd : FuncData} (Fu : Fun K "area_of" "area_of" s_area_of f fd) (hmf : mg "area_of" = some (.ref f)) (g_added : Kn P w K mg base 3 "added" R_added) (g_area_in : Kn P w K mg base 3 "area_in" R_area_in) : Kn P w K mg base 4 "area_of" R_area_of := by
  have hb := Fu.binds (ps := ["corners"]) fun _ _ _ _ _ _ us hl => match us, hl with | [_], _ => rfl
  refine kn_of (kk := 3) Fu sc_area_of hb hmf rfl (by decide) (by rintro rs ms0 r ms ⟨v_corners, rfl, rfl, v, h, rfl⟩; exact ⟨rfl, rfl⟩) ?_
  rintro rs ms0 r ms ⟨v_corners, rfl, rfl, v, h, rfl⟩
  show Ex _ _ [.dat (e_ut3iii v_corners), .un, .un] ms (fun o => Fin ms o (.dat (e_t2ii v)))
  unfold m_area_of at h
  show Ex _ _ [.dat (e_ut3iii v_corners), .un, .un] _ _
  refine ex_cons (ss_set 1 sc_area_of.nd rfl (Or.inl rfl) (.inl rfl) (fun _ => rfl) (ee_tup (ea_cons (fun _ _ _ p q => pa_cons p q) ee_int (ea_cons (fun _ _ _ p q => pa_cons p q) ee_int ea_nil)) rfl (lnOk 2 rfl (by decide))) rfl) ?_
  show Ex _ _ [.dat (e_ut3iii v_corners), .dat (e_t2ii (0, 1)), .un] _ _
  obtain ⟨t1, ht1, h⟩ := bindS h
  obtain ⟨s5, hs5, h⟩ := bindS h
  refine ex_cons (ss_forS (s0 := (0, 1)) PyData.int _ _ (fun s2 : (Int × Int) => [.dat (e_ut3iii v_corners), .dat (e_t2ii s2), .un]) (fun s2 : (Int × Int) => ms) (ms.length) (fun _ _ => rfl) (it_rng2O T.range (by rfl) (fun X _ h1 h2 h3 => pi_range2 h2 h3 h1) (ea_cons (fun _ _ _ p q => pa_cons p q) ee_int (ea_cons (fun _ _ _ p q => pa_cons p q) (ee_sub (ee_is (ee_lenT T.len (by rfl) (ea_cons (fun _ _ _ p q => pa_cons p q) (ee_var 0 rfl (Or.inl rfl) rfl) ea_nil)) (by rw [List.length_map])) ee_int) ea_nil)) ht1) (fun _ => trivial) (fun _ => rfl) (.cons .dat (.cons .dat (.cons .un .nil)))
    (fun x3 _ s2 s4 h => ⟨_, _, (eg_name 2 sc_area_of.nd rfl (Or.inl rfl) (.inl rfl)), by
      show Ex _ _ [.dat (e_ut3iii v_corners), .dat (e_t2ii s2), .dat (.int x3)] _ _
      obtain ⟨t6, ht6, h⟩ := bindS h
      obtain ⟨t7, ht7, h⟩ := bindS h
      obtain ⟨t8, ht8, h⟩ := bindS h
      obtain ⟨t9, ht9, h⟩ := bindS h
      obtain ⟨t10, ht10, h⟩ := bindS h
      refine ex_cons (ss_set 1 sc_area_of.nd rfl (Or.inl rfl) (.inl rfl) (fun _ => rfl) (ee_call g_added (Nat.le_of_ble_eq_true rfl) (by rfl) (ea_cons (fun _ _ _ p q => pa_cons p q) (ee_var 1 rfl (Or.inl rfl) rfl) (ea_cons (fun _ _ _ p q => pa_cons p q) (ee_call g_area_in (Nat.le_of_ble_eq_true rfl) (by rfl) (ea_cons (fun _ _ _ p q => pa_cons p q) (ee_ixT (fun X _ _ p q => pe_ix ix_tup p q (fun _ _ => rfl)) (ee_var 0 rfl (Or.inl rfl) rfl) ee_int (atI_map e_t3iii ht6)) (ea_cons (fun _ _ _ p q => pa_cons p q) (ee_ixT (fun X _ _ p q => pe_ix ix_tup p q (fun _ _ => rfl)) (ee_var 0 rfl (Or.inl rfl) rfl) (ee_var 2 rfl (Or.inl rfl) rfl) (atI_map e_t3iii ht7)) (ea_cons (fun _ _ _ p q => pa_cons p q) (ee_ixT (fun X _ _ p q => pe_ix ix_tup p q (fun _ _ => rfl)) (ee_var 0 rfl (Or.inl rfl) rfl) (ee_add (ee_var 2 rfl (Or.inl rfl) rfl) ee_int) (atI_map e_t3iii ht8)) ea_nil))) ⟨t6, t7, t8, rfl, rfl, t9, ht9, rfl⟩ (mu_dat (mu_dat (mu_dat mu_nil)))) ea_nil)) ⟨s2, t9, rfl, rfl, t10, ht10, rfl⟩ (mu_dat (mu_dat mu_nil))) rfl) ?_
      obtain rfl := someS h
      exact ex_nil (turn_go (.cons .dat (.cons .dat (.cons .un .nil))))
    ⟩) hs5) ?_
  show Ex _ _ [.dat (e_ut3iii v_corners), .dat (e_t2ii s5), .un] _ _
  obtain rfl := someS h
  exact ex_out (ss_ret (ee_var 1 rfl (Or.inl rfl) rfl)) rfl fin_dat

def s_told_ring : Stmt := topS 42
def nm_told_ring : List Str := ["corners", "some", "first", "at", "corner"]
theorem sc_told_ring : FnScope nm_told_ring ["corners"] (defScope s_told_ring) := ⟨rfl, rfl, rfl, by decide +kernel, rfl, by decide +kernel, by decide +kernel⟩
def m_told_ring (v_corners : (List (Int × Int × Int))) : Option ((List (Int × Int × Int))) := (m_area_of v_corners).bind fun t1 => (if (decide (0 < t1.1)) = true then (some v_corners) else (none : Option ((List (Int × Int × Int))))).bind fun t2 => (some (enumL (t2 : List (Int × Int × Int)))).bind fun t5 => (forS (fun (x7 : (Int × (Int × Int × Int))) (s6 : Int) => (ixO (t2 : List (Int × Int × Int)) s6).bind fun t10 => (m_order_in x7.2 t10).bind fun t11 => (if (decide (t11 < 0)) = true then (some x7.1) else (some s6) : Option (Int)).bind fun j12 => some j12) t5 0).bind fun s9 => (catO (cutL t2 (some s9) none) (cutL t2 none (some s9))).bind fun t13 => some t13
def R_told_ring : Rel := fun rs ms r ms2 => ∃ (v_corners : (List (Int × Int × Int))), rs = [.dat (e_ut3iii v_corners)] ∧ ms2 = ms ∧ ∃ v : (List (Int × Int × Int)), m_told_ring v_corners = some v ∧ r = .dat (e_ut3iii v)
theorem kn_told_ring (T : Txt K mg) {f : Addr} {fd : FuncData} (Fu : Fun K "told_ring" "told_ring" s_told_ring f fd) (hmf : mg "told_ring" = some (.ref f)) (g_area_of : Kn P w K mg base 4 "area_of" R_area_of) (g_order_in : Kn P w K mg base 2 "order_in" R_order_in) : Kn P w K mg base 5 "told_ring" R_told_ring := by
  have hb := Fu.binds (ps := ["corners"]) fun _ _ _ _ _ _ us hl => match us, hl with | [_], _ => rfl
  refine kn_of (kk := 4) Fu sc_told_ring hb hmf rfl (by decide) (by rintro rs ms0 r ms ⟨v_corners, rfl, rfl, v, h, rfl⟩; exact ⟨rfl, rfl⟩) ?_
  rintro rs ms0 r ms ⟨v_corners, rfl, rfl, v, h, rfl⟩
  show Ex _ _ [.dat (e_ut3iii v_corners), .un, .un, .un, .un] ms (fun o => Fin ms o (.dat (e_ut3iii v)))
  unfold m_told_ring at h
  show Ex _ _ [.dat (e_ut3iii v_corners), .un, .un, .un, .un] _ _
  obtain ⟨t1, ht1, h⟩ := bindS h
  obtain ⟨t2, ht2, h⟩ := bindS h
  refine ex_cons (ss_set 1 sc_told_ring.nd rfl (Or.inl rfl) (.inl rfl) (fun _ => rfl) (ee_ifO e_ut3iii (et_gt (nobehind _ (by decide) (by decide)) (ee_ixT (fun X _ _ p q => pe_ix ix_tup p q (fun _ _ => rfl)) (ee_call g_area_of (Nat.le_of_ble_eq_true rfl) (by rfl) (ea_cons (fun _ _ _ p q => pa_cons p q) (ee_var 0 rfl (Or.inl rfl) rfl) ea_nil) ⟨v_corners, rfl, rfl, t1, ht1, rfl⟩ (mu_dat mu_nil)) ee_int (by rfl)) ee_int) ht2 (fun _ g3 => by obtain rfl := someS g3; exact (ee_var 0 rfl (Or.inl rfl) rfl)) (fun _ g => nomatch g)) rfl) ?_
  show Ex _ _ [.dat (e_ut3iii v_corners), .dat (e_ut3iii t2), .un, .un, .un] _ _
  refine ex_cons (ss_set 2 sc_told_ring.nd rfl (Or.inl rfl) (.inl rfl) (fun _ => rfl) ee_int rfl) ?_
  show Ex _ _ [.dat (e_ut3iii v_corners), .dat (e_ut3iii t2), .dat (.int 0), .un, .un] _ _
  obtain ⟨t5, ht5, h⟩ := bindS h
  obtain ⟨s9, hs9, h⟩ := bindS h
  refine ex_cons (ss_forS (s0 := 0) e_t2it3iii _ _ (fun s6 : Int => [.dat (e_ut3iii v_corners), .dat (e_ut3iii t2), .dat (.int s6), .un, .un]) (fun s6 : Int => ms) (ms.length) (fun _ _ => rfl) (it_enumT e_t3iii T.enumerate (by rfl) (ea_cons (fun _ _ _ p q => pa_cons p q) (ee_var 1 rfl (Or.inl rfl) rfl) ea_nil)  ht5) (fun _ => trivial) (fun _ => rfl) (.cons .dat (.cons .dat (.cons .dat (.cons .un (.cons .un .nil)))))
    (fun x7 _ s6 s8 h => ⟨_, _, (eg_tup (fun _ => rfl) (fun _ => rfl) (egs_cons (fun _ _ _ p q => pgs_cons p q) (eg_name 3 sc_told_ring.nd rfl (Or.inl rfl) (.inl rfl)) (egs_cons (fun _ _ _ p q => pgs_cons p q) (eg_name 4 sc_told_ring.nd rfl (Or.inl rfl) (.inl rfl)) egs_nil))), by
      show Ex _ _ [.dat (e_ut3iii v_corners), .dat (e_ut3iii t2), .dat (.int s6), .dat (.int x7.1), .dat (e_t3iii x7.2)] _ _
      obtain ⟨t10, ht10, h⟩ := bindS h
      obtain ⟨t11, ht11, h⟩ := bindS h
      obtain ⟨j12, hj12, h⟩ := bindS h
      refine ex_cons (ss_join (ρ2 := [.dat (e_ut3iii v_corners), .dat (e_ut3iii t2), .dat (.int j12), .dat (.int x7.1), .dat (e_t3iii x7.2)]) (ms2 := ms) (et_lt (nobehind _ (by decide) (by decide)) (ee_call g_order_in (Nat.le_of_ble_eq_true rfl) (by rfl) (ea_cons (fun _ _ _ p q => pa_cons p q) (ee_var 4 rfl (Or.inl rfl) rfl) (ea_cons (fun _ _ _ p q => pa_cons p q) (ee_ixT (fun X _ _ p q => pe_ix ix_tup p q (fun _ _ => rfl)) (ee_var 1 rfl (Or.inl rfl) rfl) (ee_var 2 rfl (Or.inl rfl) rfl) (atI_map e_t3iii ht10)) ea_nil)) ⟨x7.2, t10, rfl, rfl, t11, ht11, rfl⟩ (mu_dat (mu_dat mu_nil))) ee_int) rfl (by first | rfl | simp only [List.length_append, MD_len, List.length_cons, List.length_nil, Sx.blk])
        (fun z => by
          have h := iteT' z hj12
          show Ex _ _ [.dat (e_ut3iii v_corners), .dat (e_ut3iii t2), .dat (.int s6), .dat (.int x7.1), .dat (e_t3iii x7.2)] _ _
          refine ex_cons (ss_set 2 sc_told_ring.nd rfl (Or.inl rfl) (.inl rfl) (fun _ => rfl) (ee_var 3 rfl (Or.inl rfl) rfl) rfl) ?_
          obtain rfl := someS h
          exact ex_nil (thru_nx (.cons .dat (.cons .dat (.cons .dat (.cons .dat (.cons .dat .nil))))))
        )
        (fun z => by
          have h := iteF' z hj12
          obtain rfl := someS h
          exact ex_nil (thru_nx (.cons .dat (.cons .dat (.cons .dat (.cons .dat (.cons .dat .nil))))))
        )) ?_
      obtain rfl := someS h
      exact ex_nil (turn_go (.cons .dat (.cons .dat (.cons .dat (.cons .un (.cons .un .nil))))))
    ⟩) hs9) ?_
  show Ex _ _ [.dat (e_ut3iii v_corners), .dat (e_ut3iii t2), .dat (.int s9), .un, .un] _ _
  obtain ⟨t13, ht13, h⟩ := bindS h
  obtain rfl := someS h
  exact ex_out (ss_ret (ee_tuple T.tuple (by rfl) (ea_cons (fun _ _ _ p q => pa_cons p q) (ee_star2 e_t3iii (ee_is (ee_slT (ds := (t2 : List (Int × Int × Int)).map e_t3iii) (ee_var 1 rfl (Or.inl rfl) rfl) (eo_some (ee_var 2 rfl (Or.inl rfl) rfl)) eo_none) (by rw [cutD_map]; try rfl)) (ee_is (ee_slT (ds := (t2 : List (Int × Int × Int)).map e_t3iii) (ee_var 1 rfl (Or.inl rfl) rfl) eo_none (eo_some (ee_var 2 rfl (Or.inl rfl) rfl))) (by rw [cutD_map]; try rfl)) ht13) ea_nil) rfl)) rfl fin_dat

def s_ring_by : Stmt := topS 46
def nm_ring_by : List Str := ["corners", "straight"]
theorem sc_ring_by : FnScope nm_ring_by ["corners"] (defScope s_ring_by) := ⟨rfl, rfl, rfl, by decide +kernel, rfl, by decide +kernel, by decide +kernel⟩
def m_ring_by (v_corners : (List (Int × Int × Int))) : Option ((List (Int × Int × Int))) := (m_require_corners v_corners).bind fun t1 => (m_straight_in v_corners).bind fun t2 => (m_meets_in v_corners).bind fun t3 => (eqO (e_lt2ii t3) (e_v0 ())).bind fun t4 => if (!t4) = true then (none) else ((eqO (e_li t2) (e_v0 ())).bind fun t6 => if (!t6) = true then (none) else ((m_told_ring v_corners).bind fun t8 => some t8))
def R_ring_by : Rel := fun rs ms r ms2 => ∃ (v_corners : (List (Int × Int × Int))), rs = [.dat (e_ut3iii v_corners)] ∧ ms2 = ms ∧ ∃ v : (List (Int × Int × Int)), m_ring_by v_corners = some v ∧ r = .dat (e_ut3iii v)
theorem kn_ring_by (T : Txt K mg) {f : Addr} {fd : FuncData} (Fu : Fun K "ring_by" "ring_by" s_ring_by f fd) (hmf : mg "ring_by" = some (.ref f)) (g_require_corners : Kn P w K mg base 4 "require_corners" R_require_corners) (g_straight_in : Kn P w K mg base 4 "straight_in" R_straight_in) (g_meets_in : Kn P w K mg base 7 "meets_in" R_meets_in) (g_told_ring : Kn P w K mg base 5 "told_ring" R_told_ring) : Kn P w K mg base 8 "ring_by" R_ring_by := by
  have hb := Fu.binds (ps := ["corners"]) fun _ _ _ _ _ _ us hl => match us, hl with | [_], _ => rfl
  refine kn_of (kk := 7) Fu sc_ring_by hb hmf rfl (by decide) (by rintro rs ms0 r ms ⟨v_corners, rfl, rfl, v, h, rfl⟩; exact ⟨rfl, rfl⟩) ?_
  rintro rs ms0 r ms ⟨v_corners, rfl, rfl, v, h, rfl⟩
  show Ex _ _ [.dat (e_ut3iii v_corners), .un] ms (fun o => Fin ms o (.dat (e_ut3iii v)))
  unfold m_ring_by at h
  show Ex _ _ [.dat (e_ut3iii v_corners), .un] _ _
  obtain ⟨t1, ht1, h⟩ := bindS h
  refine ex_cons (ss_drop (fun _ => rfl) (ee_call g_require_corners (Nat.le_of_ble_eq_true rfl) (by rfl) (ea_cons (fun _ _ _ p q => pa_cons p q) (ee_var 0 rfl (Or.inl rfl) rfl) ea_nil) ⟨v_corners, rfl, rfl, t1, ht1, rfl⟩ (mu_dat mu_nil))) ?_
  obtain ⟨t2, ht2, h⟩ := bindS h
  refine ex_cons (ss_set 1 sc_ring_by.nd rfl (Or.inl rfl) (.inl rfl) (fun _ => rfl) (ee_call g_straight_in (Nat.le_of_ble_eq_true rfl) (by rfl) (ea_cons (fun _ _ _ p q => pa_cons p q) (ee_var 0 rfl (Or.inl rfl) rfl) ea_nil) ⟨v_corners, rfl, rfl, t2, ht2, rfl⟩ (mu_dat mu_nil)) rfl) ?_
  show Ex _ _ [.dat (e_ut3iii v_corners), .dat (e_li t2)] _ _
  obtain ⟨t3, ht3, h⟩ := bindS h
  obtain ⟨t4, ht4, h⟩ := bindS h
  rcases boolCases (!t4) with hc5 | hc5
  · have h := iteT' hc5 h
    refine ex_ifT (et_neO (nobehind _ (by decide) (by decide)) (ee_call g_meets_in (Nat.le_of_ble_eq_true rfl) (by rfl) (ea_cons (fun _ _ _ p q => pa_cons p q) (ee_var 0 rfl (Or.inl rfl) rfl) ea_nil) ⟨v_corners, rfl, rfl, t3, ht3, rfl⟩ (mu_dat mu_nil)) (ee_lst ea_nil rfl (lnOk 0 rfl (by decide))) rfl rfl ht4) hc5 ?_
    cases h
  · have h := iteF' hc5 h
    refine ex_ifF0 (et_neO (nobehind _ (by decide) (by decide)) (ee_call g_meets_in (Nat.le_of_ble_eq_true rfl) (by rfl) (ea_cons (fun _ _ _ p q => pa_cons p q) (ee_var 0 rfl (Or.inl rfl) rfl) ea_nil) ⟨v_corners, rfl, rfl, t3, ht3, rfl⟩ (mu_dat mu_nil)) (ee_lst ea_nil rfl (lnOk 0 rfl (by decide))) rfl rfl ht4) hc5 ?_
    obtain ⟨t6, ht6, h⟩ := bindS h
    rcases boolCases (!t6) with hc7 | hc7
    · have h := iteT' hc7 h
      refine ex_ifT (et_neO (nobehind _ (by decide) (by decide)) (ee_var 1 rfl (Or.inl rfl) rfl) (ee_lst ea_nil rfl (lnOk 0 rfl (by decide))) rfl rfl ht6) hc7 ?_
      cases h
    · have h := iteF' hc7 h
      refine ex_ifF0 (et_neO (nobehind _ (by decide) (by decide)) (ee_var 1 rfl (Or.inl rfl) rfl) (ee_lst ea_nil rfl (lnOk 0 rfl (by decide))) rfl rfl ht6) hc7 ?_
      obtain ⟨t8, ht8, h⟩ := bindS h
      obtain rfl := someS h
      exact ex_out (ss_ret (ee_call g_told_ring (Nat.le_of_ble_eq_true rfl) (by rfl) (ea_cons (fun _ _ _ p q => pa_cons p q) (ee_var 0 rfl (Or.inl rfl) rfl) ea_nil) ⟨v_corners, rfl, rfl, t8, ht8, rfl⟩ (mu_dat mu_nil))) rfl fin_dat

def s_is_ring_of : Stmt := topS 43
def nm_is_ring_of : List Str := ["value"]
theorem sc_is_ring_of : FnScope nm_is_ring_of ["value"] (defScope s_is_ring_of) := ⟨rfl, rfl, rfl, by decide +kernel, rfl, by decide +kernel, by decide +kernel⟩
def m_is_ring_of (v_value : (List (Int × Int × Int))) : Option (Bool) := (m_are_corners_of v_value).bind fun t1 => (if (!t1) = true then some true else ((m_straight_in v_value).bind fun t2 => (eqO (e_li t2) (e_v0 ())).bind fun t3 => (if (!t3) = true then some true else ((m_meets_in v_value).bind fun t4 => (eqO (e_lt2ii t4) (e_v0 ())).bind fun t5 => some (!t5))).bind fun t7 => some t7)).bind fun t9 => if t9 = true then (some false) else ((m_told_ring v_value).bind fun t11 => (eqO (e_ut3iii t11) (e_ut3iii v_value)).bind fun t12 => some t12)
def R_is_ring_of : Rel := fun rs ms r ms2 => ∃ (v_value : (List (Int × Int × Int))), rs = [.dat (e_ut3iii v_value)] ∧ ms2 = ms ∧ ∃ v : Bool, m_is_ring_of v_value = some v ∧ r = .dat (.bool v)
theorem kn_is_ring_of (T : Txt K mg) {f : Addr} {fd : FuncData} (Fu : Fun K "is_ring_of" "is_ring_of" s_is_ring_of f fd) (hmf : mg "is_ring_of" = some (.ref f)) (g_are_corners_of : Kn P w K mg base 3 "are_corners_of" R_are_corners_of) (g_straight_in : Kn P w K mg base 4 "straight_in" R_straight_in) (g_meets_in : Kn P w K mg base 7 "meets_in" R_meets_in) (g_told_ring : Kn P w K mg base 5 "told_ring" R_told_ring) : Kn P w K mg base 8 "is_ring_of" R_is_ring_of := by
  have hb := Fu.binds (ps := ["value"]) fun _ _ _ _ _ _ us hl => match us, hl with | [_], _ => rfl
  refine kn_of (kk := 7) Fu sc_is_ring_of hb hmf rfl (by decide) (by rintro rs ms0 r ms ⟨v_value, rfl, rfl, v, h, rfl⟩; exact ⟨rfl, rfl⟩) ?_
  rintro rs ms0 r ms ⟨v_value, rfl, rfl, v, h, rfl⟩
  show Ex _ _ [.dat (e_ut3iii v_value)] ms (fun o => Fin ms o (.dat (.bool v)))
  unfold m_is_ring_of at h
  show Ex _ _ [.dat (e_ut3iii v_value)] _ _
  obtain ⟨t1, ht1, h⟩ := bindS h
  obtain ⟨t9, ht9, h⟩ := bindS h
  rcases boolCases t9 with hc10 | hc10
  · have h := iteT' hc10 h
    refine ex_ifT (et_w (ew_orO (et_not (et_val (fun _ _ => rfl) (ee_call g_are_corners_of (Nat.le_of_ble_eq_true rfl) (by rfl) (ea_cons (fun _ _ _ p q => pa_cons p q) (ee_var 0 rfl (Or.inl rfl) rfl) ea_nil) ⟨v_value, rfl, rfl, t1, ht1, rfl⟩ (mu_dat mu_nil)))) ht9 (fun _ g8 => by obtain ⟨t2, ht2, g8⟩ := bindS g8; obtain ⟨t3, ht3, g8⟩ := bindS g8; obtain ⟨t7, ht7, g8⟩ := bindS g8; obtain rfl := someS g8; exact (ew_orO (et_neO (nobehind _ (by decide) (by decide)) (ee_call g_straight_in (Nat.le_of_ble_eq_true rfl) (by rfl) (ea_cons (fun _ _ _ p q => pa_cons p q) (ee_var 0 rfl (Or.inl rfl) rfl) ea_nil) ⟨v_value, rfl, rfl, t2, ht2, rfl⟩ (mu_dat mu_nil)) (ee_lst ea_nil rfl (lnOk 0 rfl (by decide))) rfl rfl ht3) ht7 (fun _ g6 => by obtain ⟨t4, ht4, g6⟩ := bindS g6; obtain ⟨t5, ht5, g6⟩ := bindS g6; obtain rfl := someS g6; exact (ew_or1 (et_neO (nobehind _ (by decide) (by decide)) (ee_call g_meets_in (Nat.le_of_ble_eq_true rfl) (by rfl) (ea_cons (fun _ _ _ p q => pa_cons p q) (ee_var 0 rfl (Or.inl rfl) rfl) ea_nil) ⟨v_value, rfl, rfl, t4, ht4, rfl⟩ (mu_dat mu_nil)) (ee_lst ea_nil rfl (lnOk 0 rfl (by decide))) rfl rfl ht5))))))) hc10 ?_
    obtain rfl := someS h
    exact ex_out (ss_ret ee_bool) rfl fin_dat
  · have h := iteF' hc10 h
    refine ex_ifF0 (et_w (ew_orO (et_not (et_val (fun _ _ => rfl) (ee_call g_are_corners_of (Nat.le_of_ble_eq_true rfl) (by rfl) (ea_cons (fun _ _ _ p q => pa_cons p q) (ee_var 0 rfl (Or.inl rfl) rfl) ea_nil) ⟨v_value, rfl, rfl, t1, ht1, rfl⟩ (mu_dat mu_nil)))) ht9 (fun _ g8 => by obtain ⟨t2, ht2, g8⟩ := bindS g8; obtain ⟨t3, ht3, g8⟩ := bindS g8; obtain ⟨t7, ht7, g8⟩ := bindS g8; obtain rfl := someS g8; exact (ew_orO (et_neO (nobehind _ (by decide) (by decide)) (ee_call g_straight_in (Nat.le_of_ble_eq_true rfl) (by rfl) (ea_cons (fun _ _ _ p q => pa_cons p q) (ee_var 0 rfl (Or.inl rfl) rfl) ea_nil) ⟨v_value, rfl, rfl, t2, ht2, rfl⟩ (mu_dat mu_nil)) (ee_lst ea_nil rfl (lnOk 0 rfl (by decide))) rfl rfl ht3) ht7 (fun _ g6 => by obtain ⟨t4, ht4, g6⟩ := bindS g6; obtain ⟨t5, ht5, g6⟩ := bindS g6; obtain rfl := someS g6; exact (ew_or1 (et_neO (nobehind _ (by decide) (by decide)) (ee_call g_meets_in (Nat.le_of_ble_eq_true rfl) (by rfl) (ea_cons (fun _ _ _ p q => pa_cons p q) (ee_var 0 rfl (Or.inl rfl) rfl) ea_nil) ⟨v_value, rfl, rfl, t4, ht4, rfl⟩ (mu_dat mu_nil)) (ee_lst ea_nil rfl (lnOk 0 rfl (by decide))) rfl rfl ht5))))))) hc10 ?_
    obtain ⟨t11, ht11, h⟩ := bindS h
    obtain ⟨t12, ht12, h⟩ := bindS h
    obtain rfl := someS h
    exact ex_out (ss_ret (ee_eqO (nobehind _ (by decide) (by decide)) (ee_call g_told_ring (Nat.le_of_ble_eq_true rfl) (by rfl) (ea_cons (fun _ _ _ p q => pa_cons p q) (ee_var 0 rfl (Or.inl rfl) rfl) ea_nil) ⟨v_value, rfl, rfl, t11, ht11, rfl⟩ (mu_dat mu_nil)) (ee_var 0 rfl (Or.inl rfl) rfl) rfl rfl ht12)) rfl fin_dat

def s_require_ring : Stmt := topS 45
def nm_require_ring : List Str := ["rings", "ring"]
theorem sc_require_ring : FnScope nm_require_ring ["rings"] (defScope s_require_ring) := ⟨rfl, rfl, rfl, by decide +kernel, rfl, by decide +kernel, by decide +kernel⟩
def m_require_ring (v_rings : List (List (Int × Int × Int))) : Option (Unit) := (szO (v_rings : List (List (Int × Int × Int)))).bind fun t1 => (mapO (fun (x2 : (List (Int × Int × Int))) => (m_is_ring_of x2).bind fun t5 => some t5) (v_rings : List (List (Int × Int × Int)))).bind fun t6 => if (!((t6 : List Bool).all id)) = true then (none) else (some ())
def R_require_ring : Rel := fun rs ms r ms2 => ∃ l : List (List (Int × Int × Int)), rs = l.map (fun d => Rs.dat (e_ut3iii d)) ∧ l.length ≤ sizeLine ∧ ms2 = ms ∧ ∃ v : Unit, m_require_ring l = some v ∧ r = .dat .none
theorem kn_require_ring (T : Txt K mg) {f : Addr} {fd : FuncData} (Fu : Fun K "require_ring" "require_ring" s_require_ring f fd) (hmf : mg "require_ring" = some (.ref f)) (g_is_ring_of : Kn P w K mg base 8 "is_ring_of" R_is_ring_of) : Kn P w K mg base 9 "require_ring" R_require_ring := by
  refine kn_star (kk := 8) (pv := "rings") (N := nm_require_ring) Fu sc_require_ring hmf (by decide) (fun _ _ _ _ _ _ us rest hl => match us, rest, hl with | [], [], _ => rfl | [], _ :: _, _ => rfl) ?_
  rintro rs ms0 r ms ⟨v_rings, rfl, hz, rfl, v, h, rfl⟩
  refine ⟨(v_rings.map e_ut3iii), (by rw [List.map_map]; rfl), (by rw [List.length_map]; exact hz), rfl, ?_⟩
  show Ex _ _ [.dat (e_uut3iii v_rings), .un] ms (fun o => Fin ms o (.dat .none))
  unfold m_require_ring at h
  show Ex _ _ [.dat (e_uut3iii v_rings), .un] _ _
  obtain ⟨t1, ht1, h⟩ := bindS h
  obtain ⟨t6, ht6, h⟩ := bindS h
  rcases boolCases (!((t6 : List Bool).all id)) with hc7 | hc7
  · have h := iteT' hc7 h
    refine ex_ifT (et_not (et_val (fun _ _ => rfl) (ee_all T.all (by rfl) (ea_cons (fun _ _ _ p q => pa_cons p q) (ee_lcP [("ring", 1)] e_ut3iii PyData.bool (v_rings : List (List (Int × Int × Int))) _ sc_require_ring.nd (blkOk_by (N := nm_require_ring) (sc := defScope s_require_ring) (by decide +kernel)) (fun _ _ => rfl) (it_tup (ds := (v_rings : List (List (Int × Int × Int))).map e_ut3iii) (fun X _ h => pi_tup h) (ee_var 0 rfl (Or.inl rfl) rfl)) (fun _ => trivial) (by first | exact Nat.le_refl _ | (simp only [List.length_append, MD_len, List.length_cons, List.length_nil, Sx.blk]; omega)) (fun x2 _ y4 ex g3 => by obtain ⟨t5, ht5, g3⟩ := bindS g3; obtain rfl := someS g3; exact ⟨_, _, by decide, (eg_name 1 sc_require_ring.nd rfl (Or.inl rfl) (.inr rfl)), _, (ee_call g_is_ring_of (Nat.le_of_ble_eq_true rfl) (by rfl) (ea_cons (fun _ _ _ p q => pa_cons p q) (ee_var 1 rfl (Or.inl rfl) rfl) ea_nil) ⟨x2, rfl, rfl, t5, ht5, rfl⟩ (mu_dat mu_nil)), rfl⟩) ht6 (szO_some ht1).1) ea_nil) rfl))) hc7 ?_
    cases h
  · have h := iteF' hc7 h
    refine ex_ifF0 (et_not (et_val (fun _ _ => rfl) (ee_all T.all (by rfl) (ea_cons (fun _ _ _ p q => pa_cons p q) (ee_lcP [("ring", 1)] e_ut3iii PyData.bool (v_rings : List (List (Int × Int × Int))) _ sc_require_ring.nd (blkOk_by (N := nm_require_ring) (sc := defScope s_require_ring) (by decide +kernel)) (fun _ _ => rfl) (it_tup (ds := (v_rings : List (List (Int × Int × Int))).map e_ut3iii) (fun X _ h => pi_tup h) (ee_var 0 rfl (Or.inl rfl) rfl)) (fun _ => trivial) (by first | exact Nat.le_refl _ | (simp only [List.length_append, MD_len, List.length_cons, List.length_nil, Sx.blk]; omega)) (fun x2 _ y4 ex g3 => by obtain ⟨t5, ht5, g3⟩ := bindS g3; obtain rfl := someS g3; exact ⟨_, _, by decide, (eg_name 1 sc_require_ring.nd rfl (Or.inl rfl) (.inr rfl)), _, (ee_call g_is_ring_of (Nat.le_of_ble_eq_true rfl) (by rfl) (ea_cons (fun _ _ _ p q => pa_cons p q) (ee_var 1 rfl (Or.inl rfl) rfl) ea_nil) ⟨x2, rfl, rfl, t5, ht5, rfl⟩ (mu_dat mu_nil)), rfl⟩) ht6 (szO_some ht1).1) ea_nil) rfl))) hc7 ?_
    obtain rfl := someS h
    exact ex_nil fin_none

def s_is_whole_in : Stmt := topS 49
def nm_is_whole_in : List Str := ["points", "point"]
theorem sc_is_whole_in : FnScope nm_is_whole_in ["points"] (defScope s_is_whole_in) := ⟨rfl, rfl, rfl, by decide +kernel, rfl, by decide +kernel, by decide +kernel⟩
def m_is_whole_in (v_points : (List (Int × Int × Int))) : Option (Bool) := (szO (v_points : List (Int × Int × Int))).bind fun t1 => (mapO (fun (x2 : (Int × Int × Int)) => some (decide (x2.2.2 = 1))) (v_points : List (Int × Int × Int))).bind fun t5 => some ((t5 : List Bool).all id)
def R_is_whole_in : Rel := fun rs ms r ms2 => ∃ (v_points : (List (Int × Int × Int))), rs = [.dat (e_ut3iii v_points)] ∧ ms2 = ms ∧ ∃ v : Bool, m_is_whole_in v_points = some v ∧ r = .dat (.bool v)
theorem kn_is_whole_in (T : Txt K mg) {f : Addr} {fd : FuncData} (Fu : Fun K "is_whole_in" "is_whole_in" s_is_whole_in f fd) (hmf : mg "is_whole_in" = some (.ref f))  : Kn P w K mg base 1 "is_whole_in" R_is_whole_in := by
  have hb := Fu.binds (ps := ["points"]) fun _ _ _ _ _ _ us hl => match us, hl with | [_], _ => rfl
  refine kn_of (kk := 0) Fu sc_is_whole_in hb hmf rfl (by decide) (by rintro rs ms0 r ms ⟨v_points, rfl, rfl, v, h, rfl⟩; exact ⟨rfl, rfl⟩) ?_
  rintro rs ms0 r ms ⟨v_points, rfl, rfl, v, h, rfl⟩
  show Ex _ _ [.dat (e_ut3iii v_points), .un] ms (fun o => Fin ms o (.dat (.bool v)))
  unfold m_is_whole_in at h
  show Ex _ _ [.dat (e_ut3iii v_points), .un] _ _
  obtain ⟨t1, ht1, h⟩ := bindS h
  obtain ⟨t5, ht5, h⟩ := bindS h
  obtain rfl := someS h
  exact ex_out (ss_ret (ee_all T.all (by rfl) (ea_cons (fun _ _ _ p q => pa_cons p q) (ee_lcP [("point", 1)] e_t3iii PyData.bool (v_points : List (Int × Int × Int)) _ sc_is_whole_in.nd (blkOk_by (N := nm_is_whole_in) (sc := defScope s_is_whole_in) (by decide +kernel)) (fun _ _ => rfl) (it_tup (ds := (v_points : List (Int × Int × Int)).map e_t3iii) (fun X _ h => pi_tup h) (ee_var 0 rfl (Or.inl rfl) rfl)) (fun _ => trivial) (by first | exact Nat.le_refl _ | (simp only [List.length_append, MD_len, List.length_cons, List.length_nil, Sx.blk]; omega)) (fun x2 _ y4 ex g3 => by obtain rfl := someS g3; exact ⟨_, _, by decide, (eg_name 1 sc_is_whole_in.nd rfl (Or.inl rfl) (.inr rfl)), _, (ee_eqI (nobehind _ (by decide) (by decide)) (ee_ixT (fun X _ _ p q => pe_ix ix_tup p q (fun _ _ => rfl)) (ee_var 1 rfl (Or.inl rfl) rfl) ee_int (by rfl)) ee_int), rfl⟩) ht5 (szO_some ht1).1) ea_nil) rfl)) rfl fin_dat

def s_require_whole_ring : Stmt := topS 54
def nm_require_whole_ring : List Str := ["ring"]
theorem sc_require_whole_ring : FnScope nm_require_whole_ring ["ring"] (defScope s_require_whole_ring) := ⟨rfl, rfl, rfl, by decide +kernel, rfl, by decide +kernel, by decide +kernel⟩
def m_require_whole_ring (v_ring : (List (Int × Int × Int))) : Option (Unit) := (m_require_ring [v_ring]).bind fun t1 => (m_is_whole_in v_ring).bind fun t2 => if (!t2) = true then (none) else (some ())
def R_require_whole_ring : Rel := fun rs ms r ms2 => ∃ (v_ring : (List (Int × Int × Int))), rs = [.dat (e_ut3iii v_ring)] ∧ ms2 = ms ∧ ∃ v : Unit, m_require_whole_ring v_ring = some v ∧ r = .dat .none
theorem kn_require_whole_ring (T : Txt K mg) {f : Addr} {fd : FuncData} (Fu : Fun K "require_whole_ring" "require_whole_ring" s_require_whole_ring f fd) (hmf : mg "require_whole_ring" = some (.ref f)) (g_require_ring : Kn P w K mg base 9 "require_ring" R_require_ring) (g_is_whole_in : Kn P w K mg base 1 "is_whole_in" R_is_whole_in) : Kn P w K mg base 10 "require_whole_ring" R_require_whole_ring := by
  have hb := Fu.binds (ps := ["ring"]) fun _ _ _ _ _ _ us hl => match us, hl with | [_], _ => rfl
  refine kn_of (kk := 9) Fu sc_require_whole_ring hb hmf rfl (by decide) (by rintro rs ms0 r ms ⟨v_ring, rfl, rfl, v, h, rfl⟩; exact ⟨rfl, rfl⟩) ?_
  rintro rs ms0 r ms ⟨v_ring, rfl, rfl, v, h, rfl⟩
  show Ex _ _ [.dat (e_ut3iii v_ring)] ms (fun o => Fin ms o (.dat .none))
  unfold m_require_whole_ring at h
  show Ex _ _ [.dat (e_ut3iii v_ring)] _ _
  obtain ⟨t1, ht1, h⟩ := bindS h
  refine ex_cons (ss_drop (fun _ => rfl) (ee_call g_require_ring (Nat.le_of_ble_eq_true rfl) (by rfl) (ea_cons (fun _ _ _ p q => pa_cons p q) (ee_var 0 rfl (Or.inl rfl) rfl) ea_nil) ⟨[v_ring], rfl, (lnOk 1 rfl (by decide)), rfl, t1, ht1, rfl⟩ (mu_dat mu_nil))) ?_
  obtain ⟨t2, ht2, h⟩ := bindS h
  rcases boolCases (!t2) with hc3 | hc3
  · have h := iteT' hc3 h
    refine ex_ifT (et_not (et_val (fun _ _ => rfl) (ee_call g_is_whole_in (Nat.le_of_ble_eq_true rfl) (by rfl) (ea_cons (fun _ _ _ p q => pa_cons p q) (ee_var 0 rfl (Or.inl rfl) rfl) ea_nil) ⟨v_ring, rfl, rfl, t2, ht2, rfl⟩ (mu_dat mu_nil)))) hc3 ?_
    cases h
  · have h := iteF' hc3 h
    refine ex_ifF0 (et_not (et_val (fun _ _ => rfl) (ee_call g_is_whole_in (Nat.le_of_ble_eq_true rfl) (by rfl) (ea_cons (fun _ _ _ p q => pa_cons p q) (ee_var 0 rfl (Or.inl rfl) rfl) ea_nil) ⟨v_ring, rfl, rfl, t2, ht2, rfl⟩ (mu_dat mu_nil)))) hc3 ?_
    obtain rfl := someS h
    exact ex_nil fin_none

def s_rim_in : Stmt := topS 50
def nm_rim_in : List Str := ["ring", "one", "far"]
theorem sc_rim_in : FnScope nm_rim_in ["ring"] (defScope s_rim_in) := ⟨rfl, rfl, rfl, by decide +kernel, rfl, by decide +kernel, by decide +kernel⟩
def m_rim_in (v_ring : (List (Int × Int × Int))) : Option (Int) := (m_edges_in v_ring).bind fun t1 => (szO (t1 : List ((Int × Int × Int) × (Int × Int × Int)))).bind fun t2 => (mapO (fun (x3 : ((Int × Int × Int) × (Int × Int × Int))) => (m_common (x3.2.1 - x3.1.1) (x3.2.2.1 - x3.1.2.1)).bind fun t6 => some t6) (t1 : List ((Int × Int × Int) × (Int × Int × Int)))).bind fun t7 => some ((t7 : List Int).sum)
def R_rim_in : Rel := fun rs ms r ms2 => ∃ (v_ring : (List (Int × Int × Int))), rs = [.dat (e_ut3iii v_ring)] ∧ ms2 = ms ∧ ∃ v : Int, m_rim_in v_ring = some v ∧ r = .dat (.int v)
theorem kn_rim_in (T : Txt K mg) {f : Addr} {fd : FuncData} (Fu : Fun K "rim_in" "rim_in" s_rim_in f fd) (hmf : mg "rim_in" = some (.ref f)) (g_edges_in : Kn P w K mg base 4 "edges_in" R_edges_in) (g_common : Kn P w K mg base 1 "common" R_common) : Kn P w K mg base 5 "rim_in" R_rim_in := by
  have hb := Fu.binds (ps := ["ring"]) fun _ _ _ _ _ _ us hl => match us, hl with | [_], _ => rfl
  refine kn_of (kk := 4) Fu sc_rim_in hb hmf rfl (by decide) (by rintro rs ms0 r ms ⟨v_ring, rfl, rfl, v, h, rfl⟩; exact ⟨rfl, rfl⟩) ?_
  rintro rs ms0 r ms ⟨v_ring, rfl, rfl, v, h, rfl⟩
  show Ex _ _ [.dat (e_ut3iii v_ring), .un, .un] ms (fun o => Fin ms o (.dat (.int v)))
  unfold m_rim_in at h
  show Ex _ _ [.dat (e_ut3iii v_ring), .un, .un] _ _
  obtain ⟨t1, ht1, h⟩ := bindS h
  obtain ⟨t2, ht2, h⟩ := bindS h
  obtain ⟨t7, ht7, h⟩ := bindS h
  obtain rfl := someS h
  exact ex_out (ss_ret (ee_sum T.sum (by rfl) (ea_cons (fun _ _ _ p q => pa_cons p q) (ee_lcP [("one", 1), ("far", 2)] e_t2t3iiit3iii PyData.int (t1 : List ((Int × Int × Int) × (Int × Int × Int))) _ sc_rim_in.nd (blkOk_by (N := nm_rim_in) (sc := defScope s_rim_in) (by decide +kernel)) (fun _ _ => rfl) (it_list (ds := (t1 : List ((Int × Int × Int) × (Int × Int × Int))).map e_t2t3iiit3iii) (fun X _ h => pi_list h) (ee_call g_edges_in (Nat.le_of_ble_eq_true rfl) (by rfl) (ea_cons (fun _ _ _ p q => pa_cons p q) (ee_var 0 rfl (Or.inl rfl) rfl) ea_nil) ⟨v_ring, rfl, rfl, t1, ht1, rfl⟩ (mu_dat mu_nil)) rfl) (fun _ => rfl) (by first | exact Nat.le_refl _ | (simp only [List.length_append, MD_len, List.length_cons, List.length_nil, Sx.blk]; omega)) (fun x3 _ y5 ex g4 => by obtain ⟨t6, ht6, g4⟩ := bindS g4; obtain rfl := someS g4; exact ⟨_, _, by decide, (eg_tup (fun _ => rfl) (fun _ => rfl) (egs_cons (fun _ _ _ p q => pgs_cons p q) (eg_name 1 sc_rim_in.nd rfl (Or.inl rfl) (.inr rfl)) (egs_cons (fun _ _ _ p q => pgs_cons p q) (eg_name 2 sc_rim_in.nd rfl (Or.inl rfl) (.inr rfl)) egs_nil))), _, (ee_call g_common (Nat.le_of_ble_eq_true rfl) (by rfl) (ea_cons (fun _ _ _ p q => pa_cons p q) (ee_sub (ee_ixT (fun X _ _ p q => pe_ix ix_tup p q (fun _ _ => rfl)) (ee_var 2 rfl (Or.inl rfl) rfl) ee_int (by rfl)) (ee_ixT (fun X _ _ p q => pe_ix ix_tup p q (fun _ _ => rfl)) (ee_var 1 rfl (Or.inl rfl) rfl) ee_int (by rfl))) (ea_cons (fun _ _ _ p q => pa_cons p q) (ee_sub (ee_ixT (fun X _ _ p q => pe_ix ix_tup p q (fun _ _ => rfl)) (ee_var 2 rfl (Or.inl rfl) rfl) ee_int (by rfl)) (ee_ixT (fun X _ _ p q => pe_ix ix_tup p q (fun _ _ => rfl)) (ee_var 1 rfl (Or.inl rfl) rfl) ee_int (by rfl))) ea_nil)) ⟨(x3.2.1 - x3.1.1), (x3.2.2.1 - x3.1.2.1), rfl, rfl, t6, ht6, rfl⟩ (mu_dat (mu_dat mu_nil))), rfl⟩) ht7 (szO_some ht2).1) ea_nil) rfl)) rfl fin_dat

def s_rim_points : Stmt := topS 57
def nm_rim_points : List Str := ["ring"]
theorem sc_rim_points : FnScope nm_rim_points ["ring"] (defScope s_rim_points) := ⟨rfl, rfl, rfl, by decide +kernel, rfl, by decide +kernel, by decide +kernel⟩
def m_rim_points (v_ring : (List (Int × Int × Int))) : Option (Int) := (m_require_whole_ring v_ring).bind fun t1 => (m_rim_in v_ring).bind fun t2 => some t2
def R_rim_points : Rel := fun rs ms r ms2 => ∃ (v_ring : (List (Int × Int × Int))), rs = [.dat (e_ut3iii v_ring)] ∧ ms2 = ms ∧ ∃ v : Int, m_rim_points v_ring = some v ∧ r = .dat (.int v)
theorem kn_rim_points (T : Txt K mg) {f : Addr} {fd : FuncData} (Fu : Fun K "rim_points" "rim_points" s_rim_points f fd) (hmf : mg "rim_points" = some (.ref f)) (g_require_whole_ring : Kn P w K mg base 10 "require_whole_ring" R_require_whole_ring) (g_rim_in : Kn P w K mg base 5 "rim_in" R_rim_in) : Kn P w K mg base 11 "rim_points" R_rim_points := by
  have hb := Fu.binds (ps := ["ring"]) fun _ _ _ _ _ _ us hl => match us, hl with | [_], _ => rfl
  refine kn_of (kk := 10) Fu sc_rim_points hb hmf rfl (by decide) (by rintro rs ms0 r ms ⟨v_ring, rfl, rfl, v, h, rfl⟩; exact ⟨rfl, rfl⟩) ?_
  rintro rs ms0 r ms ⟨v_ring, rfl, rfl, v, h, rfl⟩
  show Ex _ _ [.dat (e_ut3iii v_ring)] ms (fun o => Fin ms o (.dat (.int v)))
  unfold m_rim_points at h
  show Ex _ _ [.dat (e_ut3iii v_ring)] _ _
  obtain ⟨t1, ht1, h⟩ := bindS h
  refine ex_cons (ss_drop (fun _ => rfl) (ee_call g_require_whole_ring (Nat.le_of_ble_eq_true rfl) (by rfl) (ea_cons (fun _ _ _ p q => pa_cons p q) (ee_var 0 rfl (Or.inl rfl) rfl) ea_nil) ⟨v_ring, rfl, rfl, t1, ht1, rfl⟩ (mu_dat mu_nil))) ?_
  obtain ⟨t2, ht2, h⟩ := bindS h
  obtain rfl := someS h
  exact ex_out (ss_ret (ee_call g_rim_in (Nat.le_of_ble_eq_true rfl) (by rfl) (ea_cons (fun _ _ _ p q => pa_cons p q) (ee_var 0 rfl (Or.inl rfl) rfl) ea_nil) ⟨v_ring, rfl, rfl, t2, ht2, rfl⟩ (mu_dat mu_nil))) rfl fin_dat

def s_inner_in : Stmt := topS 51
def nm_inner_in : List Str := ["ring"]
theorem sc_inner_in : FnScope nm_inner_in ["ring"] (defScope s_inner_in) := ⟨rfl, rfl, rfl, by decide +kernel, rfl, by decide +kernel, by decide +kernel⟩
def m_inner_in (v_ring : (List (Int × Int × Int))) : Option (Int) := (m_area_of v_ring).bind fun t1 => (m_rim_in v_ring).bind fun t2 => (divO ((t1.1 - t2) + 2) 2).bind fun t3 => some t3
def R_inner_in : Rel := fun rs ms r ms2 => ∃ (v_ring : (List (Int × Int × Int))), rs = [.dat (e_ut3iii v_ring)] ∧ ms2 = ms ∧ ∃ v : Int, m_inner_in v_ring = some v ∧ r = .dat (.int v)
theorem kn_inner_in (T : Txt K mg) {f : Addr} {fd : FuncData} (Fu : Fun K "inner_in" "inner_in" s_inner_in f fd) (hmf : mg "inner_in" = some (.ref f)) (g_area_of : Kn P w K mg base 4 "area_of" R_area_of) (g_rim_in : Kn P w K mg base 5 "rim_in" R_rim_in) : Kn P w K mg base 6 "inner_in" R_inner_in := by
  have hb := Fu.binds (ps := ["ring"]) fun _ _ _ _ _ _ us hl => match us, hl with | [_], _ => rfl
  refine kn_of (kk := 5) Fu sc_inner_in hb hmf rfl (by decide) (by rintro rs ms0 r ms ⟨v_ring, rfl, rfl, v, h, rfl⟩; exact ⟨rfl, rfl⟩) ?_
  rintro rs ms0 r ms ⟨v_ring, rfl, rfl, v, h, rfl⟩
  show Ex _ _ [.dat (e_ut3iii v_ring)] ms (fun o => Fin ms o (.dat (.int v)))
  unfold m_inner_in at h
  show Ex _ _ [.dat (e_ut3iii v_ring)] _ _
  obtain ⟨t1, ht1, h⟩ := bindS h
  obtain ⟨t2, ht2, h⟩ := bindS h
  obtain ⟨t3, ht3, h⟩ := bindS h
  obtain rfl := someS h
  exact ex_out (ss_ret (ee_divO (ee_add (ee_sub (ee_ixT (fun X _ _ p q => pe_ix ix_tup p q (fun _ _ => rfl)) (ee_call g_area_of (Nat.le_of_ble_eq_true rfl) (by rfl) (ea_cons (fun _ _ _ p q => pa_cons p q) (ee_var 0 rfl (Or.inl rfl) rfl) ea_nil) ⟨v_ring, rfl, rfl, t1, ht1, rfl⟩ (mu_dat mu_nil)) ee_int (by rfl)) (ee_call g_rim_in (Nat.le_of_ble_eq_true rfl) (by rfl) (ea_cons (fun _ _ _ p q => pa_cons p q) (ee_var 0 rfl (Or.inl rfl) rfl) ea_nil) ⟨v_ring, rfl, rfl, t2, ht2, rfl⟩ (mu_dat mu_nil))) ee_int) ee_int ht3)) rfl fin_dat

def s_within_points : Stmt := topS 58
def nm_within_points : List Str := ["ring"]
theorem sc_within_points : FnScope nm_within_points ["ring"] (defScope s_within_points) := ⟨rfl, rfl, rfl, by decide +kernel, rfl, by decide +kernel, by decide +kernel⟩
def m_within_points (v_ring : (List (Int × Int × Int))) : Option (Int) := (m_require_whole_ring v_ring).bind fun t1 => (m_inner_in v_ring).bind fun t2 => some t2
def R_within_points : Rel := fun rs ms r ms2 => ∃ (v_ring : (List (Int × Int × Int))), rs = [.dat (e_ut3iii v_ring)] ∧ ms2 = ms ∧ ∃ v : Int, m_within_points v_ring = some v ∧ r = .dat (.int v)
theorem kn_within_points (T : Txt K mg) {f : Addr} {fd : FuncData} (Fu : Fun K "within_points" "within_points" s_within_points f fd) (hmf : mg "within_points" = some (.ref f)) (g_require_whole_ring : Kn P w K mg base 10 "require_whole_ring" R_require_whole_ring) (g_inner_in : Kn P w K mg base 6 "inner_in" R_inner_in) : Kn P w K mg base 11 "within_points" R_within_points := by
  have hb := Fu.binds (ps := ["ring"]) fun _ _ _ _ _ _ us hl => match us, hl with | [_], _ => rfl
  refine kn_of (kk := 10) Fu sc_within_points hb hmf rfl (by decide) (by rintro rs ms0 r ms ⟨v_ring, rfl, rfl, v, h, rfl⟩; exact ⟨rfl, rfl⟩) ?_
  rintro rs ms0 r ms ⟨v_ring, rfl, rfl, v, h, rfl⟩
  show Ex _ _ [.dat (e_ut3iii v_ring)] ms (fun o => Fin ms o (.dat (.int v)))
  unfold m_within_points at h
  show Ex _ _ [.dat (e_ut3iii v_ring)] _ _
  obtain ⟨t1, ht1, h⟩ := bindS h
  refine ex_cons (ss_drop (fun _ => rfl) (ee_call g_require_whole_ring (Nat.le_of_ble_eq_true rfl) (by rfl) (ea_cons (fun _ _ _ p q => pa_cons p q) (ee_var 0 rfl (Or.inl rfl) rfl) ea_nil) ⟨v_ring, rfl, rfl, t1, ht1, rfl⟩ (mu_dat mu_nil))) ?_
  obtain ⟨t2, ht2, h⟩ := bindS h
  obtain rfl := someS h
  exact ex_out (ss_ret (ee_call g_inner_in (Nat.le_of_ble_eq_true rfl) (by rfl) (ea_cons (fun _ _ _ p q => pa_cons p q) (ee_var 0 rfl (Or.inl rfl) rfl) ea_nil) ⟨v_ring, rfl, rfl, t2, ht2, rfl⟩ (mu_dat mu_nil))) rfl fin_dat

def s__law_pairs_right : Stmt := topS 69
def nm__law_pairs_right : List Str := ["dice", "most", "times", "p", "q", "shared", "due", "ring"]
theorem sc__law_pairs_right : FnScope nm__law_pairs_right ["dice"] (defScope s__law_pairs_right) := ⟨rfl, rfl, rfl, by decide +kernel, rfl, by decide +kernel, by decide +kernel⟩
def m__law_pairs_right (d : Dice)  : Option (Bool × Dice) := (m__law_one_of d ([9, 60, 100000, 100000000] : List Int)).bind fun p1 => (m__law_roll p1.2 5).bind fun p2 => (m__law_great p2.2 p1.1).bind fun p3 => (m__law_great p3.2 p1.1).bind fun p4 => (mulO (1 + p2.1) (1 + p3.1)).bind fun t5 => (mulO (1 + p2.1) (1 + p4.1)).bind fun t6 => (m__law_common t5 t6).bind fun t7 => (mulO (t5 - 1) (t6 - 1)).bind fun t8 => (divO ((t8 + t7) - 1) 2).bind fun t9 => (m_floor_sum t5 t6 0 t5).bind fun t10 => (if (decide (t10 ≠ t9)) = true then some true else ((m_floor_sum t6 t5 0 t6).bind fun t11 => some (decide (t11 ≠ t9)))).bind fun t13 => if t13 = true then (some (false, p4.2)) else ((m_ring_by [(0, 0, 1), (t5, 0, 1), (t5, t6, 1)]).bind fun t15 => (m_rim_points t15).bind fun t16 => (if (decide (t16 ≠ ((t5 + t6) + t7))) = true then some true else ((m_within_points t15).bind fun t17 => (m_rim_points t15).bind fun t18 => (m_floor_sum (t5 + 1) t6 0 t5).bind fun t19 => some (decide ((t17 + t18) ≠ ((t5 + 1) + t19))))).bind fun t21 => if t21 = true then (some (false, p4.2)) else ((m_within_points t15).bind fun t23 => if (decide (t23 ≠ (t9 - (t7 - 1)))) = true then (some (false, p4.2)) else ((mulO 2 t5).bind fun t25 => (mulO 2 t6).bind fun t26 => (m__law_common (t25 + 1) (t26 + 1)).bind fun t27 => (divO ((t25 + 1) + 1) 2).bind fun t28 => (m_floor_sum t28 (t26 + 1) 0 (t25 + 1)).bind fun t29 => (divO ((t26 + 1) + 1) 2).bind fun t30 => (m_floor_sum t30 (t25 + 1) 0 (t26 + 1)).bind fun t31 => (divO (t25 + 1) 2).bind fun t32 => (divO (t26 + 1) 2).bind fun t33 => (mulO t32 t33).bind fun t34 => (divO t27 2).bind fun t35 => some ((decide ((t29 + t31) = (t34 + t35))), p4.2))))
def A__law_pairs_right : List Rs → Dice → Rs → Dice → Prop := fun args d r d2 => args = [] ∧ ∃ v : Bool × Dice, m__law_pairs_right d = some v ∧ r = .dat (.bool v.1) ∧ d2 = v.2
abbrev R__law_pairs_right : Rel := RelD 1 A__law_pairs_right
theorem kn__law_pairs_right (T : Txt K mg) {f : Addr} {fd : FuncData} (Fu : Fun K "_law_pairs_right" "_law_pairs_right" s__law_pairs_right f fd) (hmf : mg "_law_pairs_right" = some (.ref f)) (g__law_one_of : Kn P w K mg base 2 "_law_one_of" R__law_one_of) (g__law_roll : Kn P w K mg base 1 "_law_roll" R__law_roll) (g__law_great : Kn P w K mg base 2 "_law_great" R__law_great) (g__law_common : Kn P w K mg base 1 "_law_common" R__law_common) (g_floor_sum : Kn P w K mg base 4 "floor_sum" R_floor_sum) (g_ring_by : Kn P w K mg base 8 "ring_by" R_ring_by) (g_rim_points : Kn P w K mg base 11 "rim_points" R_rim_points) (g_within_points : Kn P w K mg base 11 "within_points" R_within_points) : Kn P w K mg base 12 "_law_pairs_right" R__law_pairs_right := by
  have hb := Fu.binds (ps := ["dice"]) fun _ _ _ _ _ _ us hl => match us, hl with | [_], _ => rfl
  refine kn_of (kk := 11) Fu sc__law_pairs_right hb hmf rfl (by decide) relD_len ?_
  rintro rs ms r ms' ⟨mc, k, d, d', tl, args, hkm, rfl, hnn, rfl, rfl, rfl, v, h, rfl, rfl⟩
  show Ex _ _ [.mu k, .un, .un, .un, .un, .un, .un, .un] (MD mc k d ++ tl) (fun o => Fin (MD mc k v.2 ++ tl) o (.dat (.bool v.1)))
  unfold m__law_pairs_right at h
  show Ex _ _ [.mu k, .un, .un, .un, .un, .un, .un, .un] _ _
  obtain ⟨p1, hp1, h⟩ := bindS h
  refine ex_cons (ss_set 1 sc__law_pairs_right.nd rfl (Or.inl rfl) (.inl rfl) (fun _ => rfl) (ee_callD (r := .dat (.int p1.1)) (d' := p1.2) hkm g__law_one_of (Nat.le_of_ble_eq_true rfl) (by rfl) rfl (ea_cons (fun _ _ _ p q => pa_cons p q) (ee_mu 0 rfl (Or.inl rfl) rfl) (ea_cons (fun _ _ _ p q => pa_cons p q) (ee_lst (ea_cons (fun _ _ _ p q => pa_cons p q) ee_int (ea_cons (fun _ _ _ p q => pa_cons p q) ee_int (ea_cons (fun _ _ _ p q => pa_cons p q) (ee_powC (i := 10) (j := 5) (k := 100000) ee_int ee_int (cpow_ok rfl) (by decide +kernel)) (ea_cons (fun _ _ _ p q => pa_cons p q) (ee_powC (i := 10) (j := 8) (k := 100000000) ee_int ee_int (cpow_ok rfl) (by decide +kernel)) ea_nil)))) rfl (lnOk 4 rfl (by decide))) ea_nil)) (one_of_A PyData.int ([9, 60, 100000, 100000000] : List Int) hp1) (mu_mu (.inr tch0) (mu_dat mu_nil))) rfl) ?_
  show Ex _ _ [.mu k, .dat (.int p1.1), .un, .un, .un, .un, .un, .un] _ _
  obtain ⟨p2, hp2, h⟩ := bindS h
  obtain ⟨p3, hp3, h⟩ := bindS h
  obtain ⟨p4, hp4, h⟩ := bindS h
  refine ex_cons (ss_par3 2 3 4 sc__law_pairs_right.nd rfl rfl rfl (by decide) (by decide) (by decide) rfl rfl rfl (fun X hX => (sw_env (env' := env0 (defScope s__law_pairs_right)) hX.sc _ _).trans rfl) (ea_cons (fun _ _ _ p q => pa_cons p q) (ee_add ee_int (ee_callD (r := .dat (.int p2.1)) (d' := p2.2) hkm g__law_roll (Nat.le_of_ble_eq_true rfl) (by rfl) rfl (ea_cons (fun _ _ _ p q => pa_cons p q) (ee_mu 0 rfl (Or.inl rfl) rfl) (ea_cons (fun _ _ _ p q => pa_cons p q) ee_int ea_nil)) ⟨5, rfl, p2, hp2, rfl, rfl⟩ (mu_mu (.inr tch0) (mu_dat mu_nil)))) (ea_cons (fun _ _ _ p q => pa_cons p q) (ee_add ee_int (ee_callD (r := .dat (.int p3.1)) (d' := p3.2) hkm g__law_great (Nat.le_of_ble_eq_true rfl) (by rfl) rfl (ea_cons (fun _ _ _ p q => pa_cons p q) (ee_mu 0 rfl (Or.inl rfl) rfl) (ea_cons (fun _ _ _ p q => pa_cons p q) (ee_var 1 rfl (Or.inl rfl) rfl) ea_nil)) ⟨p1.1, rfl, p3, hp3, rfl, rfl⟩ (mu_mu (.inr tch0) (mu_dat mu_nil)))) (ea_cons (fun _ _ _ p q => pa_cons p q) (ee_add ee_int (ee_callD (r := .dat (.int p4.1)) (d' := p4.2) hkm g__law_great (Nat.le_of_ble_eq_true rfl) (by rfl) rfl (ea_cons (fun _ _ _ p q => pa_cons p q) (ee_mu 0 rfl (Or.inl rfl) rfl) (ea_cons (fun _ _ _ p q => pa_cons p q) (ee_var 1 rfl (Or.inl rfl) rfl) ea_nil)) ⟨p1.1, rfl, p4, hp4, rfl, rfl⟩ (mu_mu (.inr tch0) (mu_dat mu_nil)))) ea_nil))) rfl rfl rfl) ?_
  show Ex _ _ [.mu k, .dat (.int p1.1), .dat (.int (1 + p2.1)), .dat (.int (1 + p3.1)), .dat (.int (1 + p4.1)), .un, .un, .un] _ _
  obtain ⟨t5, ht5, h⟩ := bindS h
  obtain ⟨t6, ht6, h⟩ := bindS h
  refine ex_cons (ss_par 3 4 sc__law_pairs_right.nd rfl rfl (by decide) rfl rfl (fun X hX => (sw_env (env' := env0 (defScope s__law_pairs_right)) hX.sc _ _).trans rfl) (ea_cons (fun _ _ _ p q => pa_cons p q) (ee_mulO (ee_var 2 rfl (Or.inl rfl) rfl) (ee_var 3 rfl (Or.inl rfl) rfl) ht5) (ea_cons (fun _ _ _ p q => pa_cons p q) (ee_mulO (ee_var 2 rfl (Or.inl rfl) rfl) (ee_var 4 rfl (Or.inl rfl) rfl) ht6) ea_nil)) rfl rfl) ?_
  show Ex _ _ [.mu k, .dat (.int p1.1), .dat (.int (1 + p2.1)), .dat (.int t5), .dat (.int t6), .un, .un, .un] _ _
  obtain ⟨t7, ht7, h⟩ := bindS h
  refine ex_cons (ss_set 5 sc__law_pairs_right.nd rfl (Or.inl rfl) (.inl rfl) (fun _ => rfl) (ee_call g__law_common (Nat.le_of_ble_eq_true rfl) (by rfl) (ea_cons (fun _ _ _ p q => pa_cons p q) (ee_var 3 rfl (Or.inl rfl) rfl) (ea_cons (fun _ _ _ p q => pa_cons p q) (ee_var 4 rfl (Or.inl rfl) rfl) ea_nil)) ⟨t5, t6, rfl, rfl, t7, ht7, rfl⟩ (mu_dat (mu_dat mu_nil))) rfl) ?_
  show Ex _ _ [.mu k, .dat (.int p1.1), .dat (.int (1 + p2.1)), .dat (.int t5), .dat (.int t6), .dat (.int t7), .un, .un] _ _
  obtain ⟨t8, ht8, h⟩ := bindS h
  obtain ⟨t9, ht9, h⟩ := bindS h
  refine ex_cons (ss_set 6 sc__law_pairs_right.nd rfl (Or.inl rfl) (.inl rfl) (fun _ => rfl) (ee_divO (ee_sub (ee_add (ee_mulO (ee_sub (ee_var 3 rfl (Or.inl rfl) rfl) ee_int) (ee_sub (ee_var 4 rfl (Or.inl rfl) rfl) ee_int) ht8) (ee_var 5 rfl (Or.inl rfl) rfl)) ee_int) ee_int ht9) rfl) ?_
  show Ex _ _ [.mu k, .dat (.int p1.1), .dat (.int (1 + p2.1)), .dat (.int t5), .dat (.int t6), .dat (.int t7), .dat (.int t9), .un] _ _
  obtain ⟨t10, ht10, h⟩ := bindS h
  obtain ⟨t13, ht13, h⟩ := bindS h
  rcases boolCases t13 with hc14 | hc14
  · have h := iteT' hc14 h
    refine ex_ifT (et_w (ew_orO (et_neI (nobehind _ (by decide) (by decide)) (ee_call g_floor_sum (Nat.le_of_ble_eq_true rfl) (by rfl) (ea_cons (fun _ _ _ p q => pa_cons p q) (ee_var 3 rfl (Or.inl rfl) rfl) (ea_cons (fun _ _ _ p q => pa_cons p q) (ee_var 4 rfl (Or.inl rfl) rfl) (ea_cons (fun _ _ _ p q => pa_cons p q) ee_int (ea_cons (fun _ _ _ p q => pa_cons p q) (ee_var 3 rfl (Or.inl rfl) rfl) ea_nil)))) ⟨t5, t6, 0, t5, rfl, rfl, t10, ht10, rfl⟩ (mu_dat (mu_dat (mu_dat (mu_dat mu_nil))))) (ee_var 6 rfl (Or.inl rfl) rfl)) ht13 (fun _ g12 => by obtain ⟨t11, ht11, g12⟩ := bindS g12; obtain rfl := someS g12; exact (ew_or1 (et_neI (nobehind _ (by decide) (by decide)) (ee_call g_floor_sum (Nat.le_of_ble_eq_true rfl) (by rfl) (ea_cons (fun _ _ _ p q => pa_cons p q) (ee_var 4 rfl (Or.inl rfl) rfl) (ea_cons (fun _ _ _ p q => pa_cons p q) (ee_var 3 rfl (Or.inl rfl) rfl) (ea_cons (fun _ _ _ p q => pa_cons p q) ee_int (ea_cons (fun _ _ _ p q => pa_cons p q) (ee_var 4 rfl (Or.inl rfl) rfl) ea_nil)))) ⟨t6, t5, 0, t6, rfl, rfl, t11, ht11, rfl⟩ (mu_dat (mu_dat (mu_dat (mu_dat mu_nil))))) (ee_var 6 rfl (Or.inl rfl) rfl)))))) hc14 ?_
    obtain rfl := someS h
    exact ex_out (ss_ret ee_bool) rfl fin_dat
  · have h := iteF' hc14 h
    refine ex_ifF0 (et_w (ew_orO (et_neI (nobehind _ (by decide) (by decide)) (ee_call g_floor_sum (Nat.le_of_ble_eq_true rfl) (by rfl) (ea_cons (fun _ _ _ p q => pa_cons p q) (ee_var 3 rfl (Or.inl rfl) rfl) (ea_cons (fun _ _ _ p q => pa_cons p q) (ee_var 4 rfl (Or.inl rfl) rfl) (ea_cons (fun _ _ _ p q => pa_cons p q) ee_int (ea_cons (fun _ _ _ p q => pa_cons p q) (ee_var 3 rfl (Or.inl rfl) rfl) ea_nil)))) ⟨t5, t6, 0, t5, rfl, rfl, t10, ht10, rfl⟩ (mu_dat (mu_dat (mu_dat (mu_dat mu_nil))))) (ee_var 6 rfl (Or.inl rfl) rfl)) ht13 (fun _ g12 => by obtain ⟨t11, ht11, g12⟩ := bindS g12; obtain rfl := someS g12; exact (ew_or1 (et_neI (nobehind _ (by decide) (by decide)) (ee_call g_floor_sum (Nat.le_of_ble_eq_true rfl) (by rfl) (ea_cons (fun _ _ _ p q => pa_cons p q) (ee_var 4 rfl (Or.inl rfl) rfl) (ea_cons (fun _ _ _ p q => pa_cons p q) (ee_var 3 rfl (Or.inl rfl) rfl) (ea_cons (fun _ _ _ p q => pa_cons p q) ee_int (ea_cons (fun _ _ _ p q => pa_cons p q) (ee_var 4 rfl (Or.inl rfl) rfl) ea_nil)))) ⟨t6, t5, 0, t6, rfl, rfl, t11, ht11, rfl⟩ (mu_dat (mu_dat (mu_dat (mu_dat mu_nil))))) (ee_var 6 rfl (Or.inl rfl) rfl)))))) hc14 ?_
    obtain ⟨t15, ht15, h⟩ := bindS h
    refine ex_cons (ss_set 7 sc__law_pairs_right.nd rfl (Or.inl rfl) (.inl rfl) (fun _ => rfl) (ee_call g_ring_by (Nat.le_of_ble_eq_true rfl) (by rfl) (ea_cons (fun _ _ _ p q => pa_cons p q) (ee_tup (ea_cons (fun _ _ _ p q => pa_cons p q) (ee_tup (ea_cons (fun _ _ _ p q => pa_cons p q) ee_int (ea_cons (fun _ _ _ p q => pa_cons p q) ee_int (ea_cons (fun _ _ _ p q => pa_cons p q) ee_int ea_nil))) rfl (lnOk 3 rfl (by decide))) (ea_cons (fun _ _ _ p q => pa_cons p q) (ee_tup (ea_cons (fun _ _ _ p q => pa_cons p q) (ee_var 3 rfl (Or.inl rfl) rfl) (ea_cons (fun _ _ _ p q => pa_cons p q) ee_int (ea_cons (fun _ _ _ p q => pa_cons p q) ee_int ea_nil))) rfl (lnOk 3 rfl (by decide))) (ea_cons (fun _ _ _ p q => pa_cons p q) (ee_tup (ea_cons (fun _ _ _ p q => pa_cons p q) (ee_var 3 rfl (Or.inl rfl) rfl) (ea_cons (fun _ _ _ p q => pa_cons p q) (ee_var 4 rfl (Or.inl rfl) rfl) (ea_cons (fun _ _ _ p q => pa_cons p q) ee_int ea_nil))) rfl (lnOk 3 rfl (by decide))) ea_nil))) rfl (lnOk 3 rfl (by decide))) ea_nil) ⟨[(0, 0, 1), (t5, 0, 1), (t5, t6, 1)], rfl, rfl, t15, ht15, rfl⟩ (mu_dat mu_nil)) rfl) ?_
    show Ex _ _ [.mu k, .dat (.int p1.1), .dat (.int (1 + p2.1)), .dat (.int t5), .dat (.int t6), .dat (.int t7), .dat (.int t9), .dat (e_ut3iii t15)] _ _
    obtain ⟨t16, ht16, h⟩ := bindS h
    obtain ⟨t21, ht21, h⟩ := bindS h
    rcases boolCases t21 with hc22 | hc22
    · have h := iteT' hc22 h
      refine ex_ifT (et_w (ew_orO (et_neI (nobehind _ (by decide) (by decide)) (ee_call g_rim_points (Nat.le_of_ble_eq_true rfl) (by rfl) (ea_cons (fun _ _ _ p q => pa_cons p q) (ee_var 7 rfl (Or.inl rfl) rfl) ea_nil) ⟨t15, rfl, rfl, t16, ht16, rfl⟩ (mu_dat mu_nil)) (ee_add (ee_add (ee_var 3 rfl (Or.inl rfl) rfl) (ee_var 4 rfl (Or.inl rfl) rfl)) (ee_var 5 rfl (Or.inl rfl) rfl))) ht21 (fun _ g20 => by obtain ⟨t17, ht17, g20⟩ := bindS g20; obtain ⟨t18, ht18, g20⟩ := bindS g20; obtain ⟨t19, ht19, g20⟩ := bindS g20; obtain rfl := someS g20; exact (ew_or1 (et_neI (nobehind _ (by decide) (by decide)) (ee_add (ee_call g_within_points (Nat.le_of_ble_eq_true rfl) (by rfl) (ea_cons (fun _ _ _ p q => pa_cons p q) (ee_var 7 rfl (Or.inl rfl) rfl) ea_nil) ⟨t15, rfl, rfl, t17, ht17, rfl⟩ (mu_dat mu_nil)) (ee_call g_rim_points (Nat.le_of_ble_eq_true rfl) (by rfl) (ea_cons (fun _ _ _ p q => pa_cons p q) (ee_var 7 rfl (Or.inl rfl) rfl) ea_nil) ⟨t15, rfl, rfl, t18, ht18, rfl⟩ (mu_dat mu_nil))) (ee_add (ee_add (ee_var 3 rfl (Or.inl rfl) rfl) ee_int) (ee_call g_floor_sum (Nat.le_of_ble_eq_true rfl) (by rfl) (ea_cons (fun _ _ _ p q => pa_cons p q) (ee_add (ee_var 3 rfl (Or.inl rfl) rfl) ee_int) (ea_cons (fun _ _ _ p q => pa_cons p q) (ee_var 4 rfl (Or.inl rfl) rfl) (ea_cons (fun _ _ _ p q => pa_cons p q) ee_int (ea_cons (fun _ _ _ p q => pa_cons p q) (ee_var 3 rfl (Or.inl rfl) rfl) ea_nil)))) ⟨(t5 + 1), t6, 0, t5, rfl, rfl, t19, ht19, rfl⟩ (mu_dat (mu_dat (mu_dat (mu_dat mu_nil))))))))))) hc22 ?_
      obtain rfl := someS h
      exact ex_out (ss_ret ee_bool) rfl fin_dat
    · have h := iteF' hc22 h
      refine ex_ifF0 (et_w (ew_orO (et_neI (nobehind _ (by decide) (by decide)) (ee_call g_rim_points (Nat.le_of_ble_eq_true rfl) (by rfl) (ea_cons (fun _ _ _ p q => pa_cons p q) (ee_var 7 rfl (Or.inl rfl) rfl) ea_nil) ⟨t15, rfl, rfl, t16, ht16, rfl⟩ (mu_dat mu_nil)) (ee_add (ee_add (ee_var 3 rfl (Or.inl rfl) rfl) (ee_var 4 rfl (Or.inl rfl) rfl)) (ee_var 5 rfl (Or.inl rfl) rfl))) ht21 (fun _ g20 => by obtain ⟨t17, ht17, g20⟩ := bindS g20; obtain ⟨t18, ht18, g20⟩ := bindS g20; obtain ⟨t19, ht19, g20⟩ := bindS g20; obtain rfl := someS g20; exact (ew_or1 (et_neI (nobehind _ (by decide) (by decide)) (ee_add (ee_call g_within_points (Nat.le_of_ble_eq_true rfl) (by rfl) (ea_cons (fun _ _ _ p q => pa_cons p q) (ee_var 7 rfl (Or.inl rfl) rfl) ea_nil) ⟨t15, rfl, rfl, t17, ht17, rfl⟩ (mu_dat mu_nil)) (ee_call g_rim_points (Nat.le_of_ble_eq_true rfl) (by rfl) (ea_cons (fun _ _ _ p q => pa_cons p q) (ee_var 7 rfl (Or.inl rfl) rfl) ea_nil) ⟨t15, rfl, rfl, t18, ht18, rfl⟩ (mu_dat mu_nil))) (ee_add (ee_add (ee_var 3 rfl (Or.inl rfl) rfl) ee_int) (ee_call g_floor_sum (Nat.le_of_ble_eq_true rfl) (by rfl) (ea_cons (fun _ _ _ p q => pa_cons p q) (ee_add (ee_var 3 rfl (Or.inl rfl) rfl) ee_int) (ea_cons (fun _ _ _ p q => pa_cons p q) (ee_var 4 rfl (Or.inl rfl) rfl) (ea_cons (fun _ _ _ p q => pa_cons p q) ee_int (ea_cons (fun _ _ _ p q => pa_cons p q) (ee_var 3 rfl (Or.inl rfl) rfl) ea_nil)))) ⟨(t5 + 1), t6, 0, t5, rfl, rfl, t19, ht19, rfl⟩ (mu_dat (mu_dat (mu_dat (mu_dat mu_nil))))))))))) hc22 ?_
      obtain ⟨t23, ht23, h⟩ := bindS h
      rcases boolCases (decide (t23 ≠ (t9 - (t7 - 1)))) with hc24 | hc24
      · have h := iteT' hc24 h
        refine ex_ifT (et_neI (nobehind _ (by decide) (by decide)) (ee_call g_within_points (Nat.le_of_ble_eq_true rfl) (by rfl) (ea_cons (fun _ _ _ p q => pa_cons p q) (ee_var 7 rfl (Or.inl rfl) rfl) ea_nil) ⟨t15, rfl, rfl, t23, ht23, rfl⟩ (mu_dat mu_nil)) (ee_sub (ee_var 6 rfl (Or.inl rfl) rfl) (ee_sub (ee_var 5 rfl (Or.inl rfl) rfl) ee_int))) hc24 ?_
        obtain rfl := someS h
        exact ex_out (ss_ret ee_bool) rfl fin_dat
      · have h := iteF' hc24 h
        refine ex_ifF0 (et_neI (nobehind _ (by decide) (by decide)) (ee_call g_within_points (Nat.le_of_ble_eq_true rfl) (by rfl) (ea_cons (fun _ _ _ p q => pa_cons p q) (ee_var 7 rfl (Or.inl rfl) rfl) ea_nil) ⟨t15, rfl, rfl, t23, ht23, rfl⟩ (mu_dat mu_nil)) (ee_sub (ee_var 6 rfl (Or.inl rfl) rfl) (ee_sub (ee_var 5 rfl (Or.inl rfl) rfl) ee_int))) hc24 ?_
        obtain ⟨t25, ht25, h⟩ := bindS h
        obtain ⟨t26, ht26, h⟩ := bindS h
        refine ex_cons (ss_par 3 4 sc__law_pairs_right.nd rfl rfl (by decide) rfl rfl (fun X hX => (sw_env (env' := env0 (defScope s__law_pairs_right)) hX.sc _ _).trans rfl) (ea_cons (fun _ _ _ p q => pa_cons p q) (ee_add (ee_mulO ee_int (ee_var 3 rfl (Or.inl rfl) rfl) ht25) ee_int) (ea_cons (fun _ _ _ p q => pa_cons p q) (ee_add (ee_mulO ee_int (ee_var 4 rfl (Or.inl rfl) rfl) ht26) ee_int) ea_nil)) rfl rfl) ?_
        show Ex _ _ [.mu k, .dat (.int p1.1), .dat (.int (1 + p2.1)), .dat (.int (t25 + 1)), .dat (.int (t26 + 1)), .dat (.int t7), .dat (.int t9), .dat (e_ut3iii t15)] _ _
        obtain ⟨t27, ht27, h⟩ := bindS h
        refine ex_cons (ss_set 5 sc__law_pairs_right.nd rfl (Or.inl rfl) (.inl rfl) (fun _ => rfl) (ee_call g__law_common (Nat.le_of_ble_eq_true rfl) (by rfl) (ea_cons (fun _ _ _ p q => pa_cons p q) (ee_var 3 rfl (Or.inl rfl) rfl) (ea_cons (fun _ _ _ p q => pa_cons p q) (ee_var 4 rfl (Or.inl rfl) rfl) ea_nil)) ⟨(t25 + 1), (t26 + 1), rfl, rfl, t27, ht27, rfl⟩ (mu_dat (mu_dat mu_nil))) rfl) ?_
        show Ex _ _ [.mu k, .dat (.int p1.1), .dat (.int (1 + p2.1)), .dat (.int (t25 + 1)), .dat (.int (t26 + 1)), .dat (.int t27), .dat (.int t9), .dat (e_ut3iii t15)] _ _
        obtain ⟨t28, ht28, h⟩ := bindS h
        obtain ⟨t29, ht29, h⟩ := bindS h
        obtain ⟨t30, ht30, h⟩ := bindS h
        obtain ⟨t31, ht31, h⟩ := bindS h
        obtain ⟨t32, ht32, h⟩ := bindS h
        obtain ⟨t33, ht33, h⟩ := bindS h
        obtain ⟨t34, ht34, h⟩ := bindS h
        obtain ⟨t35, ht35, h⟩ := bindS h
        obtain rfl := someS h
        exact ex_out (ss_ret (ee_eqI (nobehind _ (by decide) (by decide)) (ee_add (ee_call g_floor_sum (Nat.le_of_ble_eq_true rfl) (by rfl) (ea_cons (fun _ _ _ p q => pa_cons p q) (ee_divO (ee_add (ee_var 3 rfl (Or.inl rfl) rfl) ee_int) ee_int ht28) (ea_cons (fun _ _ _ p q => pa_cons p q) (ee_var 4 rfl (Or.inl rfl) rfl) (ea_cons (fun _ _ _ p q => pa_cons p q) ee_int (ea_cons (fun _ _ _ p q => pa_cons p q) (ee_var 3 rfl (Or.inl rfl) rfl) ea_nil)))) ⟨t28, (t26 + 1), 0, (t25 + 1), rfl, rfl, t29, ht29, rfl⟩ (mu_dat (mu_dat (mu_dat (mu_dat mu_nil))))) (ee_call g_floor_sum (Nat.le_of_ble_eq_true rfl) (by rfl) (ea_cons (fun _ _ _ p q => pa_cons p q) (ee_divO (ee_add (ee_var 4 rfl (Or.inl rfl) rfl) ee_int) ee_int ht30) (ea_cons (fun _ _ _ p q => pa_cons p q) (ee_var 3 rfl (Or.inl rfl) rfl) (ea_cons (fun _ _ _ p q => pa_cons p q) ee_int (ea_cons (fun _ _ _ p q => pa_cons p q) (ee_var 4 rfl (Or.inl rfl) rfl) ea_nil)))) ⟨t30, (t25 + 1), 0, (t26 + 1), rfl, rfl, t31, ht31, rfl⟩ (mu_dat (mu_dat (mu_dat (mu_dat mu_nil)))))) (ee_add (ee_mulO (ee_divO (ee_var 3 rfl (Or.inl rfl) rfl) ee_int ht32) (ee_divO (ee_var 4 rfl (Or.inl rfl) rfl) ee_int ht33) ht34) (ee_divO (ee_var 5 rfl (Or.inl rfl) rfl) ee_int ht35)))) rfl fin_dat

def s_law : Stmt := topS 70
def nm_law : List Str := ["script", "spot", "dice", "turn", "told"]
theorem sc_law : FnScope nm_law ["script"] (defScope s_law) := ⟨rfl, rfl, rfl, by decide +kernel, rfl, by decide +kernel, by decide +kernel⟩
def m_law (v_script : List Int) : Option (Bool) := (rgO (max 1 (min 2 (v_script.length : Int)))).bind fun t1 => (forL (fun (x3 : Int) (s2 : Unit) => ((m__law_dice v_script x3).bind fun t6 => (rgO 3).bind fun t7 => (forL (fun (x9 : Int) (s8 : Dice) => ((m__law_parts_right s8 ).bind fun p12 => (if (!p12.1) = true then some (true, p12.2) else ((m__law_rests_right p12.2 ).bind fun p13 => (if (!p13.1) = true then some (true, p13.2) else ((m__law_pairs_right p13.2 ).bind fun p14 => some ((!p14.1), p14.2))).bind fun t16 => some (t16.1, t16.2))).bind fun t18 => if t18.1 = true then (some (.ret (false, t18.2))) else (some (.go t18.2)) : Option (Lo (Dice) (Bool × Dice)))) t7 t6).bind fun o21 => match o21 with | .go s11 => (some (.go ())) | .brk s11 => (some (.go ())) | .ret b20 => (some (.ret b20)) : Option (Lo (Unit) (Bool × Dice)))) t1 ()).bind fun o23 => match o23 with | .go s5 => ((m_floor_sum 7 5 0 7).bind fun t24 => (m_floor_sum 7 (-5) 0 7).bind fun t25 => (m_floor_sum 3 0 (-1) 7).bind fun t26 => (m_floor_sum 1000000000 1 0 1000000000).bind fun t27 => (m_floor_sum 1000000000 1000000000 1 1000000001).bind fun t28 => (divO 999999997000000002 2).bind fun t29 => (eqO (e_v5iiiii (t24, t25, t26, t27, t28)) (e_v5iiiii (12, (-18), (-3), 0, (t29 + 1)))).bind fun t30 => some t30) | .brk s5 => ((m_floor_sum 7 5 0 7).bind fun t24 => (m_floor_sum 7 (-5) 0 7).bind fun t25 => (m_floor_sum 3 0 (-1) 7).bind fun t26 => (m_floor_sum 1000000000 1 0 1000000000).bind fun t27 => (m_floor_sum 1000000000 1000000000 1 1000000001).bind fun t28 => (divO 999999997000000002 2).bind fun t29 => (eqO (e_v5iiiii (t24, t25, t26, t27, t28)) (e_v5iiiii (12, (-18), (-3), 0, (t29 + 1)))).bind fun t30 => some t30) | .ret b22 => (some b22.1)
def R_law : Rel := fun rs ms r ms2 => ∃ (v_script : List Int), rs = [.scr v_script] ∧ ms2 = ms ∧ ∃ v : Bool, m_law v_script = some v ∧ r = .dat (.bool v)
theorem fn_law (T : Txt K mg) {f : Addr} {fd : FuncData} (Fu : Fun K "law" "law" s_law f fd) (g__law_dice : Kn P w K mg base 1 "_law_dice" R__law_dice) (g__law_parts_right : Kn P w K mg base 5 "_law_parts_right" R__law_parts_right) (g__law_rests_right : Kn P w K mg base 5 "_law_rests_right" R__law_rests_right) (g__law_pairs_right : Kn P w K mg base 12 "_law_pairs_right" R__law_pairs_right) (g_floor_sum : Kn P w K mg base 4 "floor_sum" R_floor_sum) : FnOk P w K mg base CX0 13 f fd ["script"] (spR K R_law) := by
  refine fnok_of (kk := 12) Fu sc_law rfl (by decide) (by rintro rs ms0 r ms ⟨v_script, rfl, rfl, v, h, rfl⟩; exact ⟨rfl, rfl⟩) ?_
  rintro rs ms0 r ms ⟨v_script, rfl, rfl, v, h, rfl⟩
  show Ex _ _ [.scr v_script, .un, .un, .un, .un] ms (fun o => Fin ms o (.dat (.bool v)))
  unfold m_law at h
  show Ex _ _ [.scr v_script, .un, .un, .un, .un] _ _
  obtain ⟨t1, ht1, h⟩ := bindS h
  obtain ⟨o23, ho23, h⟩ := bindS h
  refine ex_loop (ss_for (s0 := ()) (fun _ _ => rfl) hpn PyData.int _ _ (fun s2 : Unit => [.scr v_script, .un, .un, .un, .un]) (fun s2 : Unit => ms) (fun b22 : Bool × Dice => Rs.dat (.bool b22.1)) (fun b22 : Bool × Dice => (MD (ms ++ [[]]) ms.length b22.2 ++ [])) (ms.length) (it_rngO T.range (by rfl) (fun X _ h1 h2 h3 => pi_range1 h2 h3 h1) (ea_cons (fun _ _ _ p q => pa_cons p q) (ee_max2 T.max (by rfl) (ea_cons (fun _ _ _ p q => pa_cons p q) ee_int (ea_cons (fun _ _ _ p q => pa_cons p q) (ee_min2 T.min (by rfl) (ea_cons (fun _ _ _ p q => pa_cons p q) ee_int (ea_cons (fun _ _ _ p q => pa_cons p q) (ee_is (ee_len T.len (by rfl) (ea_cons (fun _ _ _ p q => pa_cons p q) (ee_scr 0 rfl (Or.inl rfl) rfl) ea_nil) rfl) (by rw [List.length_map])) ea_nil))) ea_nil))) ea_nil) ht1) (fun _ => trivial) (fun _ => rfl) (.cons .scr (.cons .un (.cons .un (.cons .un (.cons .un .nil)))))
    (fun x3 _ s2 o h => ⟨_, _, (eg_name 1 sc_law.nd rfl (Or.inl rfl) (.inl rfl)), lo_of (fun _ => rfl) rfl (by
      show Ex _ _ [.scr v_script, .dat (.int x3), .un, .un, .un] _ _
      obtain ⟨t6, ht6, h⟩ := bindS h
      refine ex_cons (ss_open 2 sc_law.nd rfl (Or.inl rfl) (.inl rfl) (fun _ => rfl) (eeq_of (ee_call g__law_dice (Nat.le_of_ble_eq_true rfl) (by rfl) (ea_cons (fun _ _ _ p q => pa_cons p q) (ee_scr 0 rfl (Or.inl rfl) rfl) (ea_cons (fun _ _ _ p q => pa_cons p q) (ee_var 1 rfl (Or.inl rfl) rfl) ea_nil)) ⟨v_script, x3, rfl, rfl, t6, ht6, rfl⟩ (mu_scr (mu_dat mu_nil))) (hm_law rfl (fun _ => rfl))) ms.length rfl) ?_
      rw [show ms ++ [[(.int t6.1), (.int t6.2)]] = MD (ms ++ [[]]) ms.length t6 ++ [] from MD_law.symm]
      have hkm := law_hk (ms := ms)
      show Ex _ _ [.scr v_script, .dat (.int x3), .mu ms.length, .un, .un] _ _
      obtain ⟨t7, ht7, h⟩ := bindS h
      obtain ⟨o21, ho21, h⟩ := bindS h
      refine ex_loop (ss_for (s0 := t6) (fun _ _ => rfl) hpn PyData.int _ _ (fun s8 : Dice => [.scr v_script, .dat (.int x3), .mu ms.length, .un, .un]) (fun s8 : Dice => (MD (ms ++ [[]]) ms.length s8 ++ [])) (fun b20 : Bool × Dice => Rs.dat (.bool b20.1)) (fun b20 : Bool × Dice => (MD (ms ++ [[]]) ms.length b20.2 ++ [])) ((ms ++ [[]]).length + [].length) (it_rngO T.range (by rfl) (fun X _ h1 h2 h3 => pi_range1 h2 h3 h1) (ea_cons (fun _ _ _ p q => pa_cons p q) ee_int ea_nil) ht7) (fun _ => trivial) (fun _ => MD_lenN) (.cons .scr (.cons .dat (.cons (.mu (by first | omega | (simp only [List.length_append, MD_len, List.length_cons, List.length_nil, Sx.blk]; omega))) (.cons .un (.cons .un .nil)))))
        (fun x9 _ s8 o h => ⟨_, _, (eg_name 3 sc_law.nd rfl (Or.inl rfl) (.inl rfl)), lo_of (fun _ => MD_lenN) MD_lenN (by
          show Ex _ _ [.scr v_script, .dat (.int x3), .mu ms.length, .dat (.int x9), .un] _ _
          obtain ⟨p12, hp12, h⟩ := bindS h
          obtain ⟨t18, ht18, h⟩ := bindS h
          rcases boolCases t18.1 with hc19 | hc19
          · have h := iteT' hc19 h
            refine ex_ifT (et_w (ew_orD (q := t18) (et_not (et_val (fun _ _ => rfl) (ee_callD (r := .dat (.bool p12.1)) (d' := p12.2) hkm g__law_parts_right (Nat.le_of_ble_eq_true rfl) (by rfl) rfl (ea_cons (fun _ _ _ p q => pa_cons p q) (ee_mu 2 rfl (Or.inl rfl) rfl) ea_nil) ⟨rfl, p12, hp12, rfl, rfl⟩ (mu_mu (.inl (by first | exact Nat.le_refl _ | (simp only [List.length_append, MD_len, List.length_cons, List.length_nil, Sx.blk]; omega))) mu_nil)))) ht18 (fun _ g17 => by obtain ⟨p13, hp13, g17⟩ := bindS g17; obtain ⟨t16, ht16, g17⟩ := bindS g17; obtain rfl := someS g17; exact (ew_orD (q := t16) (et_not (et_val (fun _ _ => rfl) (ee_callD (r := .dat (.bool p13.1)) (d' := p13.2) hkm g__law_rests_right (Nat.le_of_ble_eq_true rfl) (by rfl) rfl (ea_cons (fun _ _ _ p q => pa_cons p q) (ee_mu 2 rfl (Or.inl rfl) rfl) ea_nil) ⟨rfl, p13, hp13, rfl, rfl⟩ (mu_mu (.inl (by first | exact Nat.le_refl _ | (simp only [List.length_append, MD_len, List.length_cons, List.length_nil, Sx.blk]; omega))) mu_nil)))) ht16 (fun _ g15 => by obtain ⟨p14, hp14, g15⟩ := bindS g15; obtain rfl := someS g15; exact (ew_or1 (et_not (et_val (fun _ _ => rfl) (ee_callD (r := .dat (.bool p14.1)) (d' := p14.2) hkm g__law_pairs_right (Nat.le_of_ble_eq_true rfl) (by rfl) rfl (ea_cons (fun _ _ _ p q => pa_cons p q) (ee_mu 2 rfl (Or.inl rfl) rfl) ea_nil) ⟨rfl, p14, hp14, rfl, rfl⟩ (mu_mu (.inl (by first | exact Nat.le_refl _ | (simp only [List.length_append, MD_len, List.length_cons, List.length_nil, Sx.blk]; omega))) mu_nil)))))))))) hc19 ?_
            obtain rfl := someS h
            exact ex_out (ss_ret ee_bool) rfl (by first | rfl | (simp only [thenEx]; rfl))
          · have h := iteF' hc19 h
            refine ex_ifF0 (et_w (ew_orD (q := t18) (et_not (et_val (fun _ _ => rfl) (ee_callD (r := .dat (.bool p12.1)) (d' := p12.2) hkm g__law_parts_right (Nat.le_of_ble_eq_true rfl) (by rfl) rfl (ea_cons (fun _ _ _ p q => pa_cons p q) (ee_mu 2 rfl (Or.inl rfl) rfl) ea_nil) ⟨rfl, p12, hp12, rfl, rfl⟩ (mu_mu (.inl (by first | exact Nat.le_refl _ | (simp only [List.length_append, MD_len, List.length_cons, List.length_nil, Sx.blk]; omega))) mu_nil)))) ht18 (fun _ g17 => by obtain ⟨p13, hp13, g17⟩ := bindS g17; obtain ⟨t16, ht16, g17⟩ := bindS g17; obtain rfl := someS g17; exact (ew_orD (q := t16) (et_not (et_val (fun _ _ => rfl) (ee_callD (r := .dat (.bool p13.1)) (d' := p13.2) hkm g__law_rests_right (Nat.le_of_ble_eq_true rfl) (by rfl) rfl (ea_cons (fun _ _ _ p q => pa_cons p q) (ee_mu 2 rfl (Or.inl rfl) rfl) ea_nil) ⟨rfl, p13, hp13, rfl, rfl⟩ (mu_mu (.inl (by first | exact Nat.le_refl _ | (simp only [List.length_append, MD_len, List.length_cons, List.length_nil, Sx.blk]; omega))) mu_nil)))) ht16 (fun _ g15 => by obtain ⟨p14, hp14, g15⟩ := bindS g15; obtain rfl := someS g15; exact (ew_or1 (et_not (et_val (fun _ _ => rfl) (ee_callD (r := .dat (.bool p14.1)) (d' := p14.2) hkm g__law_pairs_right (Nat.le_of_ble_eq_true rfl) (by rfl) rfl (ea_cons (fun _ _ _ p q => pa_cons p q) (ee_mu 2 rfl (Or.inl rfl) rfl) ea_nil) ⟨rfl, p14, hp14, rfl, rfl⟩ (mu_mu (.inl (by first | exact Nat.le_refl _ | (simp only [List.length_append, MD_len, List.length_cons, List.length_nil, Sx.blk]; omega))) mu_nil)))))))))) hc19 ?_
            obtain rfl := someS h
            exact ex_nil (turn_go (.cons .scr (.cons .dat (.cons (.mu (by first | omega | (simp only [List.length_append, MD_len, List.length_cons, List.length_nil, Sx.blk]; omega))) (.cons .un (.cons .un .nil))))))
        )⟩) ho21) (fun Fo21 => ?_)
      rcases o21 with s11 | s11 | b20
      · refine ex_cons Fo21 ?_
        obtain rfl := someS h
        exact ex_nil (by show TurnEnd _ _ _ _ _ (.nx _ (MD (ms ++ [[]]) ms.length s11 ++ [])); rw [MD_law]; exact turn_goX (.cons .scr (.cons .un (.cons .un (.cons .un (.cons .un .nil))))))
      · refine ex_cons Fo21 ?_
        obtain rfl := someS h
        exact ex_nil (by show TurnEnd _ _ _ _ _ (.nx _ (MD (ms ++ [[]]) ms.length s11 ++ [])); rw [MD_law]; exact turn_goX (.cons .scr (.cons .un (.cons .un (.cons .un (.cons .un .nil))))))
      · obtain rfl := someS h
        exact ex_out Fo21 rfl (by first | rfl | (simp only [thenEx]; rfl))
    )⟩) ho23) (fun Fo23 => ?_)
  rcases o23 with s5 | s5 | b22
  · refine ex_cons Fo23 ?_
    obtain ⟨t24, ht24, h⟩ := bindS h
    obtain ⟨t25, ht25, h⟩ := bindS h
    obtain ⟨t26, ht26, h⟩ := bindS h
    obtain ⟨t27, ht27, h⟩ := bindS h
    obtain ⟨t28, ht28, h⟩ := bindS h
    refine ex_cons (ss_set 4 sc_law.nd rfl (Or.inl rfl) (.inl rfl) (fun _ => rfl) (ee_lst (ea_cons (fun _ _ _ p q => pa_cons p q) (ee_call g_floor_sum (Nat.le_of_ble_eq_true rfl) (by rfl) (ea_cons (fun _ _ _ p q => pa_cons p q) ee_int (ea_cons (fun _ _ _ p q => pa_cons p q) ee_int (ea_cons (fun _ _ _ p q => pa_cons p q) ee_int (ea_cons (fun _ _ _ p q => pa_cons p q) ee_int ea_nil)))) ⟨7, 5, 0, 7, rfl, rfl, t24, ht24, rfl⟩ (mu_dat (mu_dat (mu_dat (mu_dat mu_nil))))) (ea_cons (fun _ _ _ p q => pa_cons p q) (ee_call g_floor_sum (Nat.le_of_ble_eq_true rfl) (by rfl) (ea_cons (fun _ _ _ p q => pa_cons p q) ee_int (ea_cons (fun _ _ _ p q => pa_cons p q) (ee_is (r' := .dat (.int (-5))) (ee_sub ee_int ee_int) (isI (by decide +kernel))) (ea_cons (fun _ _ _ p q => pa_cons p q) ee_int (ea_cons (fun _ _ _ p q => pa_cons p q) ee_int ea_nil)))) ⟨7, (-5), 0, 7, rfl, rfl, t25, ht25, rfl⟩ (mu_dat (mu_dat (mu_dat (mu_dat mu_nil))))) (ea_cons (fun _ _ _ p q => pa_cons p q) (ee_call g_floor_sum (Nat.le_of_ble_eq_true rfl) (by rfl) (ea_cons (fun _ _ _ p q => pa_cons p q) ee_int (ea_cons (fun _ _ _ p q => pa_cons p q) ee_int (ea_cons (fun _ _ _ p q => pa_cons p q) (ee_is (r' := .dat (.int (-1))) (ee_sub ee_int ee_int) (isI (by decide +kernel))) (ea_cons (fun _ _ _ p q => pa_cons p q) ee_int ea_nil)))) ⟨3, 0, (-1), 7, rfl, rfl, t26, ht26, rfl⟩ (mu_dat (mu_dat (mu_dat (mu_dat mu_nil))))) (ea_cons (fun _ _ _ p q => pa_cons p q) (ee_call g_floor_sum (Nat.le_of_ble_eq_true rfl) (by rfl) (ea_cons (fun _ _ _ p q => pa_cons p q) (ee_powC (i := 10) (j := 9) (k := 1000000000) ee_int ee_int (cpow_ok rfl) (by decide +kernel)) (ea_cons (fun _ _ _ p q => pa_cons p q) ee_int (ea_cons (fun _ _ _ p q => pa_cons p q) ee_int (ea_cons (fun _ _ _ p q => pa_cons p q) (ee_powC (i := 10) (j := 9) (k := 1000000000) ee_int ee_int (cpow_ok rfl) (by decide +kernel)) ea_nil)))) ⟨1000000000, 1, 0, 1000000000, rfl, rfl, t27, ht27, rfl⟩ (mu_dat (mu_dat (mu_dat (mu_dat mu_nil))))) (ea_cons (fun _ _ _ p q => pa_cons p q) (ee_call g_floor_sum (Nat.le_of_ble_eq_true rfl) (by rfl) (ea_cons (fun _ _ _ p q => pa_cons p q) (ee_powC (i := 10) (j := 9) (k := 1000000000) ee_int ee_int (cpow_ok rfl) (by decide +kernel)) (ea_cons (fun _ _ _ p q => pa_cons p q) (ee_powC (i := 10) (j := 9) (k := 1000000000) ee_int ee_int (cpow_ok rfl) (by decide +kernel)) (ea_cons (fun _ _ _ p q => pa_cons p q) ee_int (ea_cons (fun _ _ _ p q => pa_cons p q) (ee_is (r' := .dat (.int 1000000001)) (ee_add (ee_powC (i := 10) (j := 9) (k := 1000000000) ee_int ee_int (cpow_ok rfl) (by decide +kernel)) ee_int) (isI (by decide +kernel))) ea_nil)))) ⟨1000000000, 1000000000, 1, 1000000001, rfl, rfl, t28, ht28, rfl⟩ (mu_dat (mu_dat (mu_dat (mu_dat mu_nil))))) ea_nil))))) rfl (lnOk 5 rfl (by decide))) rfl) ?_
    show Ex _ _ [.scr v_script, .un, .un, .un, .dat (e_v5iiiii (t24, t25, t26, t27, t28))] _ _
    obtain ⟨t29, ht29, h⟩ := bindS h
    obtain ⟨t30, ht30, h⟩ := bindS h
    obtain rfl := someS h
    exact ex_out (ss_ret (ee_eqO (nobehind _ (by decide) (by decide)) (ee_var 4 rfl (Or.inl rfl) rfl) (ee_lst (ea_cons (fun _ _ _ p q => pa_cons p q) ee_int (ea_cons (fun _ _ _ p q => pa_cons p q) (ee_is (r' := .dat (.int (-18))) (ee_sub ee_int ee_int) (isI (by decide +kernel))) (ea_cons (fun _ _ _ p q => pa_cons p q) (ee_is (r' := .dat (.int (-3))) (ee_sub ee_int ee_int) (isI (by decide +kernel))) (ea_cons (fun _ _ _ p q => pa_cons p q) ee_int (ea_cons (fun _ _ _ p q => pa_cons p q) (ee_add (ee_divO (ee_mulC (i := 999999999) (j := 999999998) (k := 999999997000000002) (ee_is (r' := .dat (.int 999999999)) (ee_sub (ee_powC (i := 10) (j := 9) (k := 1000000000) ee_int ee_int (cpow_ok rfl) (by decide +kernel)) ee_int) (isI (by decide +kernel))) (ee_is (r' := .dat (.int 999999998)) (ee_sub (ee_powC (i := 10) (j := 9) (k := 1000000000) ee_int ee_int (cpow_ok rfl) (by decide +kernel)) ee_int) (isI (by decide +kernel))) (cmul_ok rfl) (by decide +kernel)) ee_int ht29) ee_int) ea_nil))))) rfl (lnOk 5 rfl (by decide))) rfl rfl ht30)) rfl fin_dat
  · refine ex_cons Fo23 ?_
    obtain ⟨t24, ht24, h⟩ := bindS h
    obtain ⟨t25, ht25, h⟩ := bindS h
    obtain ⟨t26, ht26, h⟩ := bindS h
    obtain ⟨t27, ht27, h⟩ := bindS h
    obtain ⟨t28, ht28, h⟩ := bindS h
    refine ex_cons (ss_set 4 sc_law.nd rfl (Or.inl rfl) (.inl rfl) (fun _ => rfl) (ee_lst (ea_cons (fun _ _ _ p q => pa_cons p q) (ee_call g_floor_sum (Nat.le_of_ble_eq_true rfl) (by rfl) (ea_cons (fun _ _ _ p q => pa_cons p q) ee_int (ea_cons (fun _ _ _ p q => pa_cons p q) ee_int (ea_cons (fun _ _ _ p q => pa_cons p q) ee_int (ea_cons (fun _ _ _ p q => pa_cons p q) ee_int ea_nil)))) ⟨7, 5, 0, 7, rfl, rfl, t24, ht24, rfl⟩ (mu_dat (mu_dat (mu_dat (mu_dat mu_nil))))) (ea_cons (fun _ _ _ p q => pa_cons p q) (ee_call g_floor_sum (Nat.le_of_ble_eq_true rfl) (by rfl) (ea_cons (fun _ _ _ p q => pa_cons p q) ee_int (ea_cons (fun _ _ _ p q => pa_cons p q) (ee_is (r' := .dat (.int (-5))) (ee_sub ee_int ee_int) (isI (by decide +kernel))) (ea_cons (fun _ _ _ p q => pa_cons p q) ee_int (ea_cons (fun _ _ _ p q => pa_cons p q) ee_int ea_nil)))) ⟨7, (-5), 0, 7, rfl, rfl, t25, ht25, rfl⟩ (mu_dat (mu_dat (mu_dat (mu_dat mu_nil))))) (ea_cons (fun _ _ _ p q => pa_cons p q) (ee_call g_floor_sum (Nat.le_of_ble_eq_true rfl) (by rfl) (ea_cons (fun _ _ _ p q => pa_cons p q) ee_int (ea_cons (fun _ _ _ p q => pa_cons p q) ee_int (ea_cons (fun _ _ _ p q => pa_cons p q) (ee_is (r' := .dat (.int (-1))) (ee_sub ee_int ee_int) (isI (by decide +kernel))) (ea_cons (fun _ _ _ p q => pa_cons p q) ee_int ea_nil)))) ⟨3, 0, (-1), 7, rfl, rfl, t26, ht26, rfl⟩ (mu_dat (mu_dat (mu_dat (mu_dat mu_nil))))) (ea_cons (fun _ _ _ p q => pa_cons p q) (ee_call g_floor_sum (Nat.le_of_ble_eq_true rfl) (by rfl) (ea_cons (fun _ _ _ p q => pa_cons p q) (ee_powC (i := 10) (j := 9) (k := 1000000000) ee_int ee_int (cpow_ok rfl) (by decide +kernel)) (ea_cons (fun _ _ _ p q => pa_cons p q) ee_int (ea_cons (fun _ _ _ p q => pa_cons p q) ee_int (ea_cons (fun _ _ _ p q => pa_cons p q) (ee_powC (i := 10) (j := 9) (k := 1000000000) ee_int ee_int (cpow_ok rfl) (by decide +kernel)) ea_nil)))) ⟨1000000000, 1, 0, 1000000000, rfl, rfl, t27, ht27, rfl⟩ (mu_dat (mu_dat (mu_dat (mu_dat mu_nil))))) (ea_cons (fun _ _ _ p q => pa_cons p q) (ee_call g_floor_sum (Nat.le_of_ble_eq_true rfl) (by rfl) (ea_cons (fun _ _ _ p q => pa_cons p q) (ee_powC (i := 10) (j := 9) (k := 1000000000) ee_int ee_int (cpow_ok rfl) (by decide +kernel)) (ea_cons (fun _ _ _ p q => pa_cons p q) (ee_powC (i := 10) (j := 9) (k := 1000000000) ee_int ee_int (cpow_ok rfl) (by decide +kernel)) (ea_cons (fun _ _ _ p q => pa_cons p q) ee_int (ea_cons (fun _ _ _ p q => pa_cons p q) (ee_is (r' := .dat (.int 1000000001)) (ee_add (ee_powC (i := 10) (j := 9) (k := 1000000000) ee_int ee_int (cpow_ok rfl) (by decide +kernel)) ee_int) (isI (by decide +kernel))) ea_nil)))) ⟨1000000000, 1000000000, 1, 1000000001, rfl, rfl, t28, ht28, rfl⟩ (mu_dat (mu_dat (mu_dat (mu_dat mu_nil))))) ea_nil))))) rfl (lnOk 5 rfl (by decide))) rfl) ?_
    show Ex _ _ [.scr v_script, .un, .un, .un, .dat (e_v5iiiii (t24, t25, t26, t27, t28))] _ _
    obtain ⟨t29, ht29, h⟩ := bindS h
    obtain ⟨t30, ht30, h⟩ := bindS h
    obtain rfl := someS h
    exact ex_out (ss_ret (ee_eqO (nobehind _ (by decide) (by decide)) (ee_var 4 rfl (Or.inl rfl) rfl) (ee_lst (ea_cons (fun _ _ _ p q => pa_cons p q) ee_int (ea_cons (fun _ _ _ p q => pa_cons p q) (ee_is (r' := .dat (.int (-18))) (ee_sub ee_int ee_int) (isI (by decide +kernel))) (ea_cons (fun _ _ _ p q => pa_cons p q) (ee_is (r' := .dat (.int (-3))) (ee_sub ee_int ee_int) (isI (by decide +kernel))) (ea_cons (fun _ _ _ p q => pa_cons p q) ee_int (ea_cons (fun _ _ _ p q => pa_cons p q) (ee_add (ee_divO (ee_mulC (i := 999999999) (j := 999999998) (k := 999999997000000002) (ee_is (r' := .dat (.int 999999999)) (ee_sub (ee_powC (i := 10) (j := 9) (k := 1000000000) ee_int ee_int (cpow_ok rfl) (by decide +kernel)) ee_int) (isI (by decide +kernel))) (ee_is (r' := .dat (.int 999999998)) (ee_sub (ee_powC (i := 10) (j := 9) (k := 1000000000) ee_int ee_int (cpow_ok rfl) (by decide +kernel)) ee_int) (isI (by decide +kernel))) (cmul_ok rfl) (by decide +kernel)) ee_int ht29) ee_int) ea_nil))))) rfl (lnOk 5 rfl (by decide))) rfl rfl ht30)) rfl fin_dat
  · obtain rfl := someS h
    exact ex_out Fo23 rfl (by show Fin ms (.rt _ (MD (ms ++ [[]]) ms.length b22.2 ++ [])) _; rw [MD_law]; exact .dat)
end
end Abs
namespace Abs
open PySem PySem.Spec PyProof.Rows L2
theorem all_mk {l : PySem.W.OpenLaw} {w : World} {K : PySem.W.Frag} {h : Heap} {mg : Str → Option Value} {fa f__law_dice f__law_roll f__law_great f__law_one_of f__law_signed f_is_within f_require_many f_is_integer f_require_integer f_floors_in f_floor_sum f__law_parts_right f__law_common f__law_rests_right f_common f_is_point_of f_are_corners_of f_require_corners f_sign_of f_dotted f_crossed f_turn_in f_behind f_bent_in f_straight_in f_order_in f_piece_in f_edges_in f_along_in f_lowest f_point_of f_meet_in f_line_of f_line_in f_cross_in f_do_meet f_meets_in f_fraction_in f_added f_area_in f_area_of f_told_ring f_ring_by f_is_ring_of f_require_ring f_is_whole_in f_require_whole_ring f_rim_in f_rim_points f_inner_in f_within_points f__law_pairs_right f_law : Addr} (X : K.In h) (G : h.Ns mainGlobals mg) (hfa : mg "law" = some (.ref fa))
  {od__law_dice an__law_dice : Option Addr} {sl__law_dice : Array (Option Value)} {oc__law_dice kV__law_dice dc__law_dice pm__law_dice cd__law_dice ct__law_dice : Value}
  (a__law_dice : PySem.W.nsIn K mainGlobals "_law_dice" = some (some (.ref f__law_dice))) (l__law_dice : K.lookup f__law_dice = some ⟨oc__law_dice, od__law_dice, .func (PySem.W.fnOf "_law_dice" "_law_dice" (defArgs s__law_dice) (defBody s__law_dice) (defScope s__law_dice) .none kV__law_dice dc__law_dice pm__law_dice an__law_dice cd__law_dice ct__law_dice), sl__law_dice⟩) (c__law_dice : PySem.W.codeIn K cd__law_dice "_law_dice" = true) (k__law_dice : PySem.W.keepIn K (.ref f__law_dice) = true)
  {od__law_roll an__law_roll : Option Addr} {sl__law_roll : Array (Option Value)} {oc__law_roll kV__law_roll dc__law_roll pm__law_roll cd__law_roll ct__law_roll : Value}
  (a__law_roll : PySem.W.nsIn K mainGlobals "_law_roll" = some (some (.ref f__law_roll))) (l__law_roll : K.lookup f__law_roll = some ⟨oc__law_roll, od__law_roll, .func (PySem.W.fnOf "_law_roll" "_law_roll" (defArgs s__law_roll) (defBody s__law_roll) (defScope s__law_roll) .none kV__law_roll dc__law_roll pm__law_roll an__law_roll cd__law_roll ct__law_roll), sl__law_roll⟩) (c__law_roll : PySem.W.codeIn K cd__law_roll "_law_roll" = true) (k__law_roll : PySem.W.keepIn K (.ref f__law_roll) = true)
  {od__law_great an__law_great : Option Addr} {sl__law_great : Array (Option Value)} {oc__law_great kV__law_great dc__law_great pm__law_great cd__law_great ct__law_great : Value}
  (a__law_great : PySem.W.nsIn K mainGlobals "_law_great" = some (some (.ref f__law_great))) (l__law_great : K.lookup f__law_great = some ⟨oc__law_great, od__law_great, .func (PySem.W.fnOf "_law_great" "_law_great" (defArgs s__law_great) (defBody s__law_great) (defScope s__law_great) .none kV__law_great dc__law_great pm__law_great an__law_great cd__law_great ct__law_great), sl__law_great⟩) (c__law_great : PySem.W.codeIn K cd__law_great "_law_great" = true) (k__law_great : PySem.W.keepIn K (.ref f__law_great) = true)
  {od__law_one_of an__law_one_of : Option Addr} {sl__law_one_of : Array (Option Value)} {oc__law_one_of kV__law_one_of dc__law_one_of pm__law_one_of cd__law_one_of ct__law_one_of : Value}
  (a__law_one_of : PySem.W.nsIn K mainGlobals "_law_one_of" = some (some (.ref f__law_one_of))) (l__law_one_of : K.lookup f__law_one_of = some ⟨oc__law_one_of, od__law_one_of, .func (PySem.W.fnOf "_law_one_of" "_law_one_of" (defArgs s__law_one_of) (defBody s__law_one_of) (defScope s__law_one_of) .none kV__law_one_of dc__law_one_of pm__law_one_of an__law_one_of cd__law_one_of ct__law_one_of), sl__law_one_of⟩) (c__law_one_of : PySem.W.codeIn K cd__law_one_of "_law_one_of" = true) (k__law_one_of : PySem.W.keepIn K (.ref f__law_one_of) = true)
  {od__law_signed an__law_signed : Option Addr} {sl__law_signed : Array (Option Value)} {oc__law_signed kV__law_signed dc__law_signed pm__law_signed cd__law_signed ct__law_signed : Value}
  (a__law_signed : PySem.W.nsIn K mainGlobals "_law_signed" = some (some (.ref f__law_signed))) (l__law_signed : K.lookup f__law_signed = some ⟨oc__law_signed, od__law_signed, .func (PySem.W.fnOf "_law_signed" "_law_signed" (defArgs s__law_signed) (defBody s__law_signed) (defScope s__law_signed) .none kV__law_signed dc__law_signed pm__law_signed an__law_signed cd__law_signed ct__law_signed), sl__law_signed⟩) (c__law_signed : PySem.W.codeIn K cd__law_signed "_law_signed" = true) (k__law_signed : PySem.W.keepIn K (.ref f__law_signed) = true)
  {od_is_within an_is_within : Option Addr} {sl_is_within : Array (Option Value)} {oc_is_within kV_is_within dc_is_within pm_is_within cd_is_within ct_is_within : Value}
  (a_is_within : PySem.W.nsIn K mainGlobals "is_within" = some (some (.ref f_is_within))) (l_is_within : K.lookup f_is_within = some ⟨oc_is_within, od_is_within, .func (PySem.W.fnOf "is_within" "is_within" (defArgs s_is_within) (defBody s_is_within) (defScope s_is_within) .none kV_is_within dc_is_within pm_is_within an_is_within cd_is_within ct_is_within), sl_is_within⟩) (c_is_within : PySem.W.codeIn K cd_is_within "is_within" = true) (k_is_within : PySem.W.keepIn K (.ref f_is_within) = true)
  {od_require_many an_require_many : Option Addr} {sl_require_many : Array (Option Value)} {oc_require_many kV_require_many dc_require_many pm_require_many cd_require_many ct_require_many : Value}
  (a_require_many : PySem.W.nsIn K mainGlobals "require_many" = some (some (.ref f_require_many))) (l_require_many : K.lookup f_require_many = some ⟨oc_require_many, od_require_many, .func (PySem.W.fnOf "require_many" "require_many" (defArgs s_require_many) (defBody s_require_many) (defScope s_require_many) .none kV_require_many dc_require_many pm_require_many an_require_many cd_require_many ct_require_many), sl_require_many⟩) (c_require_many : PySem.W.codeIn K cd_require_many "require_many" = true) (k_require_many : PySem.W.keepIn K (.ref f_require_many) = true)
  {od_is_integer an_is_integer : Option Addr} {sl_is_integer : Array (Option Value)} {oc_is_integer kV_is_integer dc_is_integer pm_is_integer cd_is_integer ct_is_integer : Value}
  (a_is_integer : PySem.W.nsIn K mainGlobals "is_integer" = some (some (.ref f_is_integer))) (l_is_integer : K.lookup f_is_integer = some ⟨oc_is_integer, od_is_integer, .func (PySem.W.fnOf "is_integer" "is_integer" (defArgs s_is_integer) (defBody s_is_integer) (defScope s_is_integer) .none kV_is_integer dc_is_integer pm_is_integer an_is_integer cd_is_integer ct_is_integer), sl_is_integer⟩) (c_is_integer : PySem.W.codeIn K cd_is_integer "is_integer" = true) (k_is_integer : PySem.W.keepIn K (.ref f_is_integer) = true)
  {od_require_integer an_require_integer : Option Addr} {sl_require_integer : Array (Option Value)} {oc_require_integer kV_require_integer dc_require_integer pm_require_integer cd_require_integer ct_require_integer : Value}
  (a_require_integer : PySem.W.nsIn K mainGlobals "require_integer" = some (some (.ref f_require_integer))) (l_require_integer : K.lookup f_require_integer = some ⟨oc_require_integer, od_require_integer, .func (PySem.W.fnOf "require_integer" "require_integer" (defArgs s_require_integer) (defBody s_require_integer) (defScope s_require_integer) .none kV_require_integer dc_require_integer pm_require_integer an_require_integer cd_require_integer ct_require_integer), sl_require_integer⟩) (c_require_integer : PySem.W.codeIn K cd_require_integer "require_integer" = true) (k_require_integer : PySem.W.keepIn K (.ref f_require_integer) = true)
  {od_floors_in an_floors_in : Option Addr} {sl_floors_in : Array (Option Value)} {oc_floors_in kV_floors_in dc_floors_in pm_floors_in cd_floors_in ct_floors_in : Value}
  (a_floors_in : PySem.W.nsIn K mainGlobals "floors_in" = some (some (.ref f_floors_in))) (l_floors_in : K.lookup f_floors_in = some ⟨oc_floors_in, od_floors_in, .func (PySem.W.fnOf "floors_in" "floors_in" (defArgs s_floors_in) (defBody s_floors_in) (defScope s_floors_in) .none kV_floors_in dc_floors_in pm_floors_in an_floors_in cd_floors_in ct_floors_in), sl_floors_in⟩) (c_floors_in : PySem.W.codeIn K cd_floors_in "floors_in" = true) (k_floors_in : PySem.W.keepIn K (.ref f_floors_in) = true)
  {od_floor_sum an_floor_sum : Option Addr} {sl_floor_sum : Array (Option Value)} {oc_floor_sum kV_floor_sum dc_floor_sum pm_floor_sum cd_floor_sum ct_floor_sum : Value}
  (a_floor_sum : PySem.W.nsIn K mainGlobals "floor_sum" = some (some (.ref f_floor_sum))) (l_floor_sum : K.lookup f_floor_sum = some ⟨oc_floor_sum, od_floor_sum, .func (PySem.W.fnOf "floor_sum" "floor_sum" (defArgs s_floor_sum) (defBody s_floor_sum) (defScope s_floor_sum) .none kV_floor_sum dc_floor_sum pm_floor_sum an_floor_sum cd_floor_sum ct_floor_sum), sl_floor_sum⟩) (c_floor_sum : PySem.W.codeIn K cd_floor_sum "floor_sum" = true) (k_floor_sum : PySem.W.keepIn K (.ref f_floor_sum) = true)
  {od__law_parts_right an__law_parts_right : Option Addr} {sl__law_parts_right : Array (Option Value)} {oc__law_parts_right kV__law_parts_right dc__law_parts_right pm__law_parts_right cd__law_parts_right ct__law_parts_right : Value}
  (a__law_parts_right : PySem.W.nsIn K mainGlobals "_law_parts_right" = some (some (.ref f__law_parts_right))) (l__law_parts_right : K.lookup f__law_parts_right = some ⟨oc__law_parts_right, od__law_parts_right, .func (PySem.W.fnOf "_law_parts_right" "_law_parts_right" (defArgs s__law_parts_right) (defBody s__law_parts_right) (defScope s__law_parts_right) .none kV__law_parts_right dc__law_parts_right pm__law_parts_right an__law_parts_right cd__law_parts_right ct__law_parts_right), sl__law_parts_right⟩) (c__law_parts_right : PySem.W.codeIn K cd__law_parts_right "_law_parts_right" = true) (k__law_parts_right : PySem.W.keepIn K (.ref f__law_parts_right) = true)
  {od__law_common an__law_common : Option Addr} {sl__law_common : Array (Option Value)} {oc__law_common kV__law_common dc__law_common pm__law_common cd__law_common ct__law_common : Value}
  (a__law_common : PySem.W.nsIn K mainGlobals "_law_common" = some (some (.ref f__law_common))) (l__law_common : K.lookup f__law_common = some ⟨oc__law_common, od__law_common, .func (PySem.W.fnOf "_law_common" "_law_common" (defArgs s__law_common) (defBody s__law_common) (defScope s__law_common) .none kV__law_common dc__law_common pm__law_common an__law_common cd__law_common ct__law_common), sl__law_common⟩) (c__law_common : PySem.W.codeIn K cd__law_common "_law_common" = true) (k__law_common : PySem.W.keepIn K (.ref f__law_common) = true)
  {od__law_rests_right an__law_rests_right : Option Addr} {sl__law_rests_right : Array (Option Value)} {oc__law_rests_right kV__law_rests_right dc__law_rests_right pm__law_rests_right cd__law_rests_right ct__law_rests_right : Value}
  (a__law_rests_right : PySem.W.nsIn K mainGlobals "_law_rests_right" = some (some (.ref f__law_rests_right))) (l__law_rests_right : K.lookup f__law_rests_right = some ⟨oc__law_rests_right, od__law_rests_right, .func (PySem.W.fnOf "_law_rests_right" "_law_rests_right" (defArgs s__law_rests_right) (defBody s__law_rests_right) (defScope s__law_rests_right) .none kV__law_rests_right dc__law_rests_right pm__law_rests_right an__law_rests_right cd__law_rests_right ct__law_rests_right), sl__law_rests_right⟩) (c__law_rests_right : PySem.W.codeIn K cd__law_rests_right "_law_rests_right" = true) (k__law_rests_right : PySem.W.keepIn K (.ref f__law_rests_right) = true)
  {od_common an_common : Option Addr} {sl_common : Array (Option Value)} {oc_common kV_common dc_common pm_common cd_common ct_common : Value}
  (a_common : PySem.W.nsIn K mainGlobals "common" = some (some (.ref f_common))) (l_common : K.lookup f_common = some ⟨oc_common, od_common, .func (PySem.W.fnOf "common" "common" (defArgs s_common) (defBody s_common) (defScope s_common) .none kV_common dc_common pm_common an_common cd_common ct_common), sl_common⟩) (c_common : PySem.W.codeIn K cd_common "common" = true) (k_common : PySem.W.keepIn K (.ref f_common) = true)
  {od_is_point_of an_is_point_of : Option Addr} {sl_is_point_of : Array (Option Value)} {oc_is_point_of kV_is_point_of dc_is_point_of pm_is_point_of cd_is_point_of ct_is_point_of : Value}
  (a_is_point_of : PySem.W.nsIn K mainGlobals "is_point_of" = some (some (.ref f_is_point_of))) (l_is_point_of : K.lookup f_is_point_of = some ⟨oc_is_point_of, od_is_point_of, .func (PySem.W.fnOf "is_point_of" "is_point_of" (defArgs s_is_point_of) (defBody s_is_point_of) (defScope s_is_point_of) .none kV_is_point_of dc_is_point_of pm_is_point_of an_is_point_of cd_is_point_of ct_is_point_of), sl_is_point_of⟩) (c_is_point_of : PySem.W.codeIn K cd_is_point_of "is_point_of" = true) (k_is_point_of : PySem.W.keepIn K (.ref f_is_point_of) = true)
  {od_are_corners_of an_are_corners_of : Option Addr} {sl_are_corners_of : Array (Option Value)} {oc_are_corners_of kV_are_corners_of dc_are_corners_of pm_are_corners_of cd_are_corners_of ct_are_corners_of : Value}
  (a_are_corners_of : PySem.W.nsIn K mainGlobals "are_corners_of" = some (some (.ref f_are_corners_of))) (l_are_corners_of : K.lookup f_are_corners_of = some ⟨oc_are_corners_of, od_are_corners_of, .func (PySem.W.fnOf "are_corners_of" "are_corners_of" (defArgs s_are_corners_of) (defBody s_are_corners_of) (defScope s_are_corners_of) .none kV_are_corners_of dc_are_corners_of pm_are_corners_of an_are_corners_of cd_are_corners_of ct_are_corners_of), sl_are_corners_of⟩) (c_are_corners_of : PySem.W.codeIn K cd_are_corners_of "are_corners_of" = true) (k_are_corners_of : PySem.W.keepIn K (.ref f_are_corners_of) = true)
  {od_require_corners an_require_corners : Option Addr} {sl_require_corners : Array (Option Value)} {oc_require_corners kV_require_corners dc_require_corners pm_require_corners cd_require_corners ct_require_corners : Value}
  (a_require_corners : PySem.W.nsIn K mainGlobals "require_corners" = some (some (.ref f_require_corners))) (l_require_corners : K.lookup f_require_corners = some ⟨oc_require_corners, od_require_corners, .func (PySem.W.fnOf "require_corners" "require_corners" (defArgs s_require_corners) (defBody s_require_corners) (defScope s_require_corners) .none kV_require_corners dc_require_corners pm_require_corners an_require_corners cd_require_corners ct_require_corners), sl_require_corners⟩) (c_require_corners : PySem.W.codeIn K cd_require_corners "require_corners" = true) (k_require_corners : PySem.W.keepIn K (.ref f_require_corners) = true)
  {od_sign_of an_sign_of : Option Addr} {sl_sign_of : Array (Option Value)} {oc_sign_of kV_sign_of dc_sign_of pm_sign_of cd_sign_of ct_sign_of : Value}
  (a_sign_of : PySem.W.nsIn K mainGlobals "sign_of" = some (some (.ref f_sign_of))) (l_sign_of : K.lookup f_sign_of = some ⟨oc_sign_of, od_sign_of, .func (PySem.W.fnOf "sign_of" "sign_of" (defArgs s_sign_of) (defBody s_sign_of) (defScope s_sign_of) .none kV_sign_of dc_sign_of pm_sign_of an_sign_of cd_sign_of ct_sign_of), sl_sign_of⟩) (c_sign_of : PySem.W.codeIn K cd_sign_of "sign_of" = true) (k_sign_of : PySem.W.keepIn K (.ref f_sign_of) = true)
  {od_dotted an_dotted : Option Addr} {sl_dotted : Array (Option Value)} {oc_dotted kV_dotted dc_dotted pm_dotted cd_dotted ct_dotted : Value}
  (a_dotted : PySem.W.nsIn K mainGlobals "dotted" = some (some (.ref f_dotted))) (l_dotted : K.lookup f_dotted = some ⟨oc_dotted, od_dotted, .func (PySem.W.fnOf "dotted" "dotted" (defArgs s_dotted) (defBody s_dotted) (defScope s_dotted) .none kV_dotted dc_dotted pm_dotted an_dotted cd_dotted ct_dotted), sl_dotted⟩) (c_dotted : PySem.W.codeIn K cd_dotted "dotted" = true) (k_dotted : PySem.W.keepIn K (.ref f_dotted) = true)
  {od_crossed an_crossed : Option Addr} {sl_crossed : Array (Option Value)} {oc_crossed kV_crossed dc_crossed pm_crossed cd_crossed ct_crossed : Value}
  (a_crossed : PySem.W.nsIn K mainGlobals "crossed" = some (some (.ref f_crossed))) (l_crossed : K.lookup f_crossed = some ⟨oc_crossed, od_crossed, .func (PySem.W.fnOf "crossed" "crossed" (defArgs s_crossed) (defBody s_crossed) (defScope s_crossed) .none kV_crossed dc_crossed pm_crossed an_crossed cd_crossed ct_crossed), sl_crossed⟩) (c_crossed : PySem.W.codeIn K cd_crossed "crossed" = true) (k_crossed : PySem.W.keepIn K (.ref f_crossed) = true)
  {od_turn_in an_turn_in : Option Addr} {sl_turn_in : Array (Option Value)} {oc_turn_in kV_turn_in dc_turn_in pm_turn_in cd_turn_in ct_turn_in : Value}
  (a_turn_in : PySem.W.nsIn K mainGlobals "turn_in" = some (some (.ref f_turn_in))) (l_turn_in : K.lookup f_turn_in = some ⟨oc_turn_in, od_turn_in, .func (PySem.W.fnOf "turn_in" "turn_in" (defArgs s_turn_in) (defBody s_turn_in) (defScope s_turn_in) .none kV_turn_in dc_turn_in pm_turn_in an_turn_in cd_turn_in ct_turn_in), sl_turn_in⟩) (c_turn_in : PySem.W.codeIn K cd_turn_in "turn_in" = true) (k_turn_in : PySem.W.keepIn K (.ref f_turn_in) = true)
  {od_behind an_behind : Option Addr} {sl_behind : Array (Option Value)} {oc_behind kV_behind dc_behind pm_behind cd_behind ct_behind : Value}
  (a_behind : PySem.W.nsIn K mainGlobals "behind" = some (some (.ref f_behind))) (l_behind : K.lookup f_behind = some ⟨oc_behind, od_behind, .func (PySem.W.fnOf "behind" "behind" (defArgs s_behind) (defBody s_behind) (defScope s_behind) .none kV_behind dc_behind pm_behind an_behind cd_behind ct_behind), sl_behind⟩) (c_behind : PySem.W.codeIn K cd_behind "behind" = true) (k_behind : PySem.W.keepIn K (.ref f_behind) = true)
  {od_bent_in an_bent_in : Option Addr} {sl_bent_in : Array (Option Value)} {oc_bent_in kV_bent_in dc_bent_in pm_bent_in cd_bent_in ct_bent_in : Value}
  (a_bent_in : PySem.W.nsIn K mainGlobals "bent_in" = some (some (.ref f_bent_in))) (l_bent_in : K.lookup f_bent_in = some ⟨oc_bent_in, od_bent_in, .func (PySem.W.fnOf "bent_in" "bent_in" (defArgs s_bent_in) (defBody s_bent_in) (defScope s_bent_in) .none kV_bent_in dc_bent_in pm_bent_in an_bent_in cd_bent_in ct_bent_in), sl_bent_in⟩) (c_bent_in : PySem.W.codeIn K cd_bent_in "bent_in" = true) (k_bent_in : PySem.W.keepIn K (.ref f_bent_in) = true)
  {od_straight_in an_straight_in : Option Addr} {sl_straight_in : Array (Option Value)} {oc_straight_in kV_straight_in dc_straight_in pm_straight_in cd_straight_in ct_straight_in : Value}
  (a_straight_in : PySem.W.nsIn K mainGlobals "straight_in" = some (some (.ref f_straight_in))) (l_straight_in : K.lookup f_straight_in = some ⟨oc_straight_in, od_straight_in, .func (PySem.W.fnOf "straight_in" "straight_in" (defArgs s_straight_in) (defBody s_straight_in) (defScope s_straight_in) .none kV_straight_in dc_straight_in pm_straight_in an_straight_in cd_straight_in ct_straight_in), sl_straight_in⟩) (c_straight_in : PySem.W.codeIn K cd_straight_in "straight_in" = true) (k_straight_in : PySem.W.keepIn K (.ref f_straight_in) = true)
  {od_order_in an_order_in : Option Addr} {sl_order_in : Array (Option Value)} {oc_order_in kV_order_in dc_order_in pm_order_in cd_order_in ct_order_in : Value}
  (a_order_in : PySem.W.nsIn K mainGlobals "order_in" = some (some (.ref f_order_in))) (l_order_in : K.lookup f_order_in = some ⟨oc_order_in, od_order_in, .func (PySem.W.fnOf "order_in" "order_in" (defArgs s_order_in) (defBody s_order_in) (defScope s_order_in) .none kV_order_in dc_order_in pm_order_in an_order_in cd_order_in ct_order_in), sl_order_in⟩) (c_order_in : PySem.W.codeIn K cd_order_in "order_in" = true) (k_order_in : PySem.W.keepIn K (.ref f_order_in) = true)
  {od_piece_in an_piece_in : Option Addr} {sl_piece_in : Array (Option Value)} {oc_piece_in kV_piece_in dc_piece_in pm_piece_in cd_piece_in ct_piece_in : Value}
  (a_piece_in : PySem.W.nsIn K mainGlobals "piece_in" = some (some (.ref f_piece_in))) (l_piece_in : K.lookup f_piece_in = some ⟨oc_piece_in, od_piece_in, .func (PySem.W.fnOf "piece_in" "piece_in" (defArgs s_piece_in) (defBody s_piece_in) (defScope s_piece_in) .none kV_piece_in dc_piece_in pm_piece_in an_piece_in cd_piece_in ct_piece_in), sl_piece_in⟩) (c_piece_in : PySem.W.codeIn K cd_piece_in "piece_in" = true) (k_piece_in : PySem.W.keepIn K (.ref f_piece_in) = true)
  {od_edges_in an_edges_in : Option Addr} {sl_edges_in : Array (Option Value)} {oc_edges_in kV_edges_in dc_edges_in pm_edges_in cd_edges_in ct_edges_in : Value}
  (a_edges_in : PySem.W.nsIn K mainGlobals "edges_in" = some (some (.ref f_edges_in))) (l_edges_in : K.lookup f_edges_in = some ⟨oc_edges_in, od_edges_in, .func (PySem.W.fnOf "edges_in" "edges_in" (defArgs s_edges_in) (defBody s_edges_in) (defScope s_edges_in) .none kV_edges_in dc_edges_in pm_edges_in an_edges_in cd_edges_in ct_edges_in), sl_edges_in⟩) (c_edges_in : PySem.W.codeIn K cd_edges_in "edges_in" = true) (k_edges_in : PySem.W.keepIn K (.ref f_edges_in) = true)
  {od_along_in an_along_in : Option Addr} {sl_along_in : Array (Option Value)} {oc_along_in kV_along_in dc_along_in pm_along_in cd_along_in ct_along_in : Value}
  (a_along_in : PySem.W.nsIn K mainGlobals "along_in" = some (some (.ref f_along_in))) (l_along_in : K.lookup f_along_in = some ⟨oc_along_in, od_along_in, .func (PySem.W.fnOf "along_in" "along_in" (defArgs s_along_in) (defBody s_along_in) (defScope s_along_in) .none kV_along_in dc_along_in pm_along_in an_along_in cd_along_in ct_along_in), sl_along_in⟩) (c_along_in : PySem.W.codeIn K cd_along_in "along_in" = true) (k_along_in : PySem.W.keepIn K (.ref f_along_in) = true)
  {od_lowest an_lowest : Option Addr} {sl_lowest : Array (Option Value)} {oc_lowest kV_lowest dc_lowest pm_lowest cd_lowest ct_lowest : Value}
  (a_lowest : PySem.W.nsIn K mainGlobals "lowest" = some (some (.ref f_lowest))) (l_lowest : K.lookup f_lowest = some ⟨oc_lowest, od_lowest, .func (PySem.W.fnOf "lowest" "lowest" (defArgs s_lowest) (defBody s_lowest) (defScope s_lowest) .none kV_lowest dc_lowest pm_lowest an_lowest cd_lowest ct_lowest), sl_lowest⟩) (c_lowest : PySem.W.codeIn K cd_lowest "lowest" = true) (k_lowest : PySem.W.keepIn K (.ref f_lowest) = true)
  {od_point_of an_point_of : Option Addr} {sl_point_of : Array (Option Value)} {oc_point_of kV_point_of dc_point_of pm_point_of cd_point_of ct_point_of : Value}
  (a_point_of : PySem.W.nsIn K mainGlobals "point_of" = some (some (.ref f_point_of))) (l_point_of : K.lookup f_point_of = some ⟨oc_point_of, od_point_of, .func (PySem.W.fnOf "point_of" "point_of" (defArgs s_point_of) (defBody s_point_of) (defScope s_point_of) .none kV_point_of dc_point_of pm_point_of an_point_of cd_point_of ct_point_of), sl_point_of⟩) (c_point_of : PySem.W.codeIn K cd_point_of "point_of" = true) (k_point_of : PySem.W.keepIn K (.ref f_point_of) = true)
  {od_meet_in an_meet_in : Option Addr} {sl_meet_in : Array (Option Value)} {oc_meet_in kV_meet_in dc_meet_in pm_meet_in cd_meet_in ct_meet_in : Value}
  (a_meet_in : PySem.W.nsIn K mainGlobals "meet_in" = some (some (.ref f_meet_in))) (l_meet_in : K.lookup f_meet_in = some ⟨oc_meet_in, od_meet_in, .func (PySem.W.fnOf "meet_in" "meet_in" (defArgs s_meet_in) (defBody s_meet_in) (defScope s_meet_in) .none kV_meet_in dc_meet_in pm_meet_in an_meet_in cd_meet_in ct_meet_in), sl_meet_in⟩) (c_meet_in : PySem.W.codeIn K cd_meet_in "meet_in" = true) (k_meet_in : PySem.W.keepIn K (.ref f_meet_in) = true)
  {od_line_of an_line_of : Option Addr} {sl_line_of : Array (Option Value)} {oc_line_of kV_line_of dc_line_of pm_line_of cd_line_of ct_line_of : Value}
  (a_line_of : PySem.W.nsIn K mainGlobals "line_of" = some (some (.ref f_line_of))) (l_line_of : K.lookup f_line_of = some ⟨oc_line_of, od_line_of, .func (PySem.W.fnOf "line_of" "line_of" (defArgs s_line_of) (defBody s_line_of) (defScope s_line_of) .none kV_line_of dc_line_of pm_line_of an_line_of cd_line_of ct_line_of), sl_line_of⟩) (c_line_of : PySem.W.codeIn K cd_line_of "line_of" = true) (k_line_of : PySem.W.keepIn K (.ref f_line_of) = true)
  {od_line_in an_line_in : Option Addr} {sl_line_in : Array (Option Value)} {oc_line_in kV_line_in dc_line_in pm_line_in cd_line_in ct_line_in : Value}
  (a_line_in : PySem.W.nsIn K mainGlobals "line_in" = some (some (.ref f_line_in))) (l_line_in : K.lookup f_line_in = some ⟨oc_line_in, od_line_in, .func (PySem.W.fnOf "line_in" "line_in" (defArgs s_line_in) (defBody s_line_in) (defScope s_line_in) .none kV_line_in dc_line_in pm_line_in an_line_in cd_line_in ct_line_in), sl_line_in⟩) (c_line_in : PySem.W.codeIn K cd_line_in "line_in" = true) (k_line_in : PySem.W.keepIn K (.ref f_line_in) = true)
  {od_cross_in an_cross_in : Option Addr} {sl_cross_in : Array (Option Value)} {oc_cross_in kV_cross_in dc_cross_in pm_cross_in cd_cross_in ct_cross_in : Value}
  (a_cross_in : PySem.W.nsIn K mainGlobals "cross_in" = some (some (.ref f_cross_in))) (l_cross_in : K.lookup f_cross_in = some ⟨oc_cross_in, od_cross_in, .func (PySem.W.fnOf "cross_in" "cross_in" (defArgs s_cross_in) (defBody s_cross_in) (defScope s_cross_in) .none kV_cross_in dc_cross_in pm_cross_in an_cross_in cd_cross_in ct_cross_in), sl_cross_in⟩) (c_cross_in : PySem.W.codeIn K cd_cross_in "cross_in" = true) (k_cross_in : PySem.W.keepIn K (.ref f_cross_in) = true)
  {od_do_meet an_do_meet : Option Addr} {sl_do_meet : Array (Option Value)} {oc_do_meet kV_do_meet dc_do_meet pm_do_meet cd_do_meet ct_do_meet : Value}
  (a_do_meet : PySem.W.nsIn K mainGlobals "do_meet" = some (some (.ref f_do_meet))) (l_do_meet : K.lookup f_do_meet = some ⟨oc_do_meet, od_do_meet, .func (PySem.W.fnOf "do_meet" "do_meet" (defArgs s_do_meet) (defBody s_do_meet) (defScope s_do_meet) .none kV_do_meet dc_do_meet pm_do_meet an_do_meet cd_do_meet ct_do_meet), sl_do_meet⟩) (c_do_meet : PySem.W.codeIn K cd_do_meet "do_meet" = true) (k_do_meet : PySem.W.keepIn K (.ref f_do_meet) = true)
  {od_meets_in an_meets_in : Option Addr} {sl_meets_in : Array (Option Value)} {oc_meets_in kV_meets_in dc_meets_in pm_meets_in cd_meets_in ct_meets_in : Value}
  (a_meets_in : PySem.W.nsIn K mainGlobals "meets_in" = some (some (.ref f_meets_in))) (l_meets_in : K.lookup f_meets_in = some ⟨oc_meets_in, od_meets_in, .func (PySem.W.fnOf "meets_in" "meets_in" (defArgs s_meets_in) (defBody s_meets_in) (defScope s_meets_in) .none kV_meets_in dc_meets_in pm_meets_in an_meets_in cd_meets_in ct_meets_in), sl_meets_in⟩) (c_meets_in : PySem.W.codeIn K cd_meets_in "meets_in" = true) (k_meets_in : PySem.W.keepIn K (.ref f_meets_in) = true)
  {od_fraction_in an_fraction_in : Option Addr} {sl_fraction_in : Array (Option Value)} {oc_fraction_in kV_fraction_in dc_fraction_in pm_fraction_in cd_fraction_in ct_fraction_in : Value}
  (a_fraction_in : PySem.W.nsIn K mainGlobals "fraction_in" = some (some (.ref f_fraction_in))) (l_fraction_in : K.lookup f_fraction_in = some ⟨oc_fraction_in, od_fraction_in, .func (PySem.W.fnOf "fraction_in" "fraction_in" (defArgs s_fraction_in) (defBody s_fraction_in) (defScope s_fraction_in) .none kV_fraction_in dc_fraction_in pm_fraction_in an_fraction_in cd_fraction_in ct_fraction_in), sl_fraction_in⟩) (c_fraction_in : PySem.W.codeIn K cd_fraction_in "fraction_in" = true) (k_fraction_in : PySem.W.keepIn K (.ref f_fraction_in) = true)
  {od_added an_added : Option Addr} {sl_added : Array (Option Value)} {oc_added kV_added dc_added pm_added cd_added ct_added : Value}
  (a_added : PySem.W.nsIn K mainGlobals "added" = some (some (.ref f_added))) (l_added : K.lookup f_added = some ⟨oc_added, od_added, .func (PySem.W.fnOf "added" "added" (defArgs s_added) (defBody s_added) (defScope s_added) .none kV_added dc_added pm_added an_added cd_added ct_added), sl_added⟩) (c_added : PySem.W.codeIn K cd_added "added" = true) (k_added : PySem.W.keepIn K (.ref f_added) = true)
  {od_area_in an_area_in : Option Addr} {sl_area_in : Array (Option Value)} {oc_area_in kV_area_in dc_area_in pm_area_in cd_area_in ct_area_in : Value}
  (a_area_in : PySem.W.nsIn K mainGlobals "area_in" = some (some (.ref f_area_in))) (l_area_in : K.lookup f_area_in = some ⟨oc_area_in, od_area_in, .func (PySem.W.fnOf "area_in" "area_in" (defArgs s_area_in) (defBody s_area_in) (defScope s_area_in) .none kV_area_in dc_area_in pm_area_in an_area_in cd_area_in ct_area_in), sl_area_in⟩) (c_area_in : PySem.W.codeIn K cd_area_in "area_in" = true) (k_area_in : PySem.W.keepIn K (.ref f_area_in) = true)
  {od_area_of an_area_of : Option Addr} {sl_area_of : Array (Option Value)} {oc_area_of kV_area_of dc_area_of pm_area_of cd_area_of ct_area_of : Value}
  (a_area_of : PySem.W.nsIn K mainGlobals "area_of" = some (some (.ref f_area_of))) (l_area_of : K.lookup f_area_of = some ⟨oc_area_of, od_area_of, .func (PySem.W.fnOf "area_of" "area_of" (defArgs s_area_of) (defBody s_area_of) (defScope s_area_of) .none kV_area_of dc_area_of pm_area_of an_area_of cd_area_of ct_area_of), sl_area_of⟩) (c_area_of : PySem.W.codeIn K cd_area_of "area_of" = true) (k_area_of : PySem.W.keepIn K (.ref f_area_of) = true)
  {od_told_ring an_told_ring : Option Addr} {sl_told_ring : Array (Option Value)} {oc_told_ring kV_told_ring dc_told_ring pm_told_ring cd_told_ring ct_told_ring : Value}
  (a_told_ring : PySem.W.nsIn K mainGlobals "told_ring" = some (some (.ref f_told_ring))) (l_told_ring : K.lookup f_told_ring = some ⟨oc_told_ring, od_told_ring, .func (PySem.W.fnOf "told_ring" "told_ring" (defArgs s_told_ring) (defBody s_told_ring) (defScope s_told_ring) .none kV_told_ring dc_told_ring pm_told_ring an_told_ring cd_told_ring ct_told_ring), sl_told_ring⟩) (c_told_ring : PySem.W.codeIn K cd_told_ring "told_ring" = true) (k_told_ring : PySem.W.keepIn K (.ref f_told_ring) = true)
  {od_ring_by an_ring_by : Option Addr} {sl_ring_by : Array (Option Value)} {oc_ring_by kV_ring_by dc_ring_by pm_ring_by cd_ring_by ct_ring_by : Value}
  (a_ring_by : PySem.W.nsIn K mainGlobals "ring_by" = some (some (.ref f_ring_by))) (l_ring_by : K.lookup f_ring_by = some ⟨oc_ring_by, od_ring_by, .func (PySem.W.fnOf "ring_by" "ring_by" (defArgs s_ring_by) (defBody s_ring_by) (defScope s_ring_by) .none kV_ring_by dc_ring_by pm_ring_by an_ring_by cd_ring_by ct_ring_by), sl_ring_by⟩) (c_ring_by : PySem.W.codeIn K cd_ring_by "ring_by" = true) (k_ring_by : PySem.W.keepIn K (.ref f_ring_by) = true)
  {od_is_ring_of an_is_ring_of : Option Addr} {sl_is_ring_of : Array (Option Value)} {oc_is_ring_of kV_is_ring_of dc_is_ring_of pm_is_ring_of cd_is_ring_of ct_is_ring_of : Value}
  (a_is_ring_of : PySem.W.nsIn K mainGlobals "is_ring_of" = some (some (.ref f_is_ring_of))) (l_is_ring_of : K.lookup f_is_ring_of = some ⟨oc_is_ring_of, od_is_ring_of, .func (PySem.W.fnOf "is_ring_of" "is_ring_of" (defArgs s_is_ring_of) (defBody s_is_ring_of) (defScope s_is_ring_of) .none kV_is_ring_of dc_is_ring_of pm_is_ring_of an_is_ring_of cd_is_ring_of ct_is_ring_of), sl_is_ring_of⟩) (c_is_ring_of : PySem.W.codeIn K cd_is_ring_of "is_ring_of" = true) (k_is_ring_of : PySem.W.keepIn K (.ref f_is_ring_of) = true)
  {od_require_ring an_require_ring : Option Addr} {sl_require_ring : Array (Option Value)} {oc_require_ring kV_require_ring dc_require_ring pm_require_ring cd_require_ring ct_require_ring : Value}
  (a_require_ring : PySem.W.nsIn K mainGlobals "require_ring" = some (some (.ref f_require_ring))) (l_require_ring : K.lookup f_require_ring = some ⟨oc_require_ring, od_require_ring, .func (PySem.W.fnOf "require_ring" "require_ring" (defArgs s_require_ring) (defBody s_require_ring) (defScope s_require_ring) .none kV_require_ring dc_require_ring pm_require_ring an_require_ring cd_require_ring ct_require_ring), sl_require_ring⟩) (c_require_ring : PySem.W.codeIn K cd_require_ring "require_ring" = true) (k_require_ring : PySem.W.keepIn K (.ref f_require_ring) = true)
  {od_is_whole_in an_is_whole_in : Option Addr} {sl_is_whole_in : Array (Option Value)} {oc_is_whole_in kV_is_whole_in dc_is_whole_in pm_is_whole_in cd_is_whole_in ct_is_whole_in : Value}
  (a_is_whole_in : PySem.W.nsIn K mainGlobals "is_whole_in" = some (some (.ref f_is_whole_in))) (l_is_whole_in : K.lookup f_is_whole_in = some ⟨oc_is_whole_in, od_is_whole_in, .func (PySem.W.fnOf "is_whole_in" "is_whole_in" (defArgs s_is_whole_in) (defBody s_is_whole_in) (defScope s_is_whole_in) .none kV_is_whole_in dc_is_whole_in pm_is_whole_in an_is_whole_in cd_is_whole_in ct_is_whole_in), sl_is_whole_in⟩) (c_is_whole_in : PySem.W.codeIn K cd_is_whole_in "is_whole_in" = true) (k_is_whole_in : PySem.W.keepIn K (.ref f_is_whole_in) = true)
  {od_require_whole_ring an_require_whole_ring : Option Addr} {sl_require_whole_ring : Array (Option Value)} {oc_require_whole_ring kV_require_whole_ring dc_require_whole_ring pm_require_whole_ring cd_require_whole_ring ct_require_whole_ring : Value}
  (a_require_whole_ring : PySem.W.nsIn K mainGlobals "require_whole_ring" = some (some (.ref f_require_whole_ring))) (l_require_whole_ring : K.lookup f_require_whole_ring = some ⟨oc_require_whole_ring, od_require_whole_ring, .func (PySem.W.fnOf "require_whole_ring" "require_whole_ring" (defArgs s_require_whole_ring) (defBody s_require_whole_ring) (defScope s_require_whole_ring) .none kV_require_whole_ring dc_require_whole_ring pm_require_whole_ring an_require_whole_ring cd_require_whole_ring ct_require_whole_ring), sl_require_whole_ring⟩) (c_require_whole_ring : PySem.W.codeIn K cd_require_whole_ring "require_whole_ring" = true) (k_require_whole_ring : PySem.W.keepIn K (.ref f_require_whole_ring) = true)
  {od_rim_in an_rim_in : Option Addr} {sl_rim_in : Array (Option Value)} {oc_rim_in kV_rim_in dc_rim_in pm_rim_in cd_rim_in ct_rim_in : Value}
  (a_rim_in : PySem.W.nsIn K mainGlobals "rim_in" = some (some (.ref f_rim_in))) (l_rim_in : K.lookup f_rim_in = some ⟨oc_rim_in, od_rim_in, .func (PySem.W.fnOf "rim_in" "rim_in" (defArgs s_rim_in) (defBody s_rim_in) (defScope s_rim_in) .none kV_rim_in dc_rim_in pm_rim_in an_rim_in cd_rim_in ct_rim_in), sl_rim_in⟩) (c_rim_in : PySem.W.codeIn K cd_rim_in "rim_in" = true) (k_rim_in : PySem.W.keepIn K (.ref f_rim_in) = true)
  {od_rim_points an_rim_points : Option Addr} {sl_rim_points : Array (Option Value)} {oc_rim_points kV_rim_points dc_rim_points pm_rim_points cd_rim_points ct_rim_points : Value}
  (a_rim_points : PySem.W.nsIn K mainGlobals "rim_points" = some (some (.ref f_rim_points))) (l_rim_points : K.lookup f_rim_points = some ⟨oc_rim_points, od_rim_points, .func (PySem.W.fnOf "rim_points" "rim_points" (defArgs s_rim_points) (defBody s_rim_points) (defScope s_rim_points) .none kV_rim_points dc_rim_points pm_rim_points an_rim_points cd_rim_points ct_rim_points), sl_rim_points⟩) (c_rim_points : PySem.W.codeIn K cd_rim_points "rim_points" = true) (k_rim_points : PySem.W.keepIn K (.ref f_rim_points) = true)
  {od_inner_in an_inner_in : Option Addr} {sl_inner_in : Array (Option Value)} {oc_inner_in kV_inner_in dc_inner_in pm_inner_in cd_inner_in ct_inner_in : Value}
  (a_inner_in : PySem.W.nsIn K mainGlobals "inner_in" = some (some (.ref f_inner_in))) (l_inner_in : K.lookup f_inner_in = some ⟨oc_inner_in, od_inner_in, .func (PySem.W.fnOf "inner_in" "inner_in" (defArgs s_inner_in) (defBody s_inner_in) (defScope s_inner_in) .none kV_inner_in dc_inner_in pm_inner_in an_inner_in cd_inner_in ct_inner_in), sl_inner_in⟩) (c_inner_in : PySem.W.codeIn K cd_inner_in "inner_in" = true) (k_inner_in : PySem.W.keepIn K (.ref f_inner_in) = true)
  {od_within_points an_within_points : Option Addr} {sl_within_points : Array (Option Value)} {oc_within_points kV_within_points dc_within_points pm_within_points cd_within_points ct_within_points : Value}
  (a_within_points : PySem.W.nsIn K mainGlobals "within_points" = some (some (.ref f_within_points))) (l_within_points : K.lookup f_within_points = some ⟨oc_within_points, od_within_points, .func (PySem.W.fnOf "within_points" "within_points" (defArgs s_within_points) (defBody s_within_points) (defScope s_within_points) .none kV_within_points dc_within_points pm_within_points an_within_points cd_within_points ct_within_points), sl_within_points⟩) (c_within_points : PySem.W.codeIn K cd_within_points "within_points" = true) (k_within_points : PySem.W.keepIn K (.ref f_within_points) = true)
  {od__law_pairs_right an__law_pairs_right : Option Addr} {sl__law_pairs_right : Array (Option Value)} {oc__law_pairs_right kV__law_pairs_right dc__law_pairs_right pm__law_pairs_right cd__law_pairs_right ct__law_pairs_right : Value}
  (a__law_pairs_right : PySem.W.nsIn K mainGlobals "_law_pairs_right" = some (some (.ref f__law_pairs_right))) (l__law_pairs_right : K.lookup f__law_pairs_right = some ⟨oc__law_pairs_right, od__law_pairs_right, .func (PySem.W.fnOf "_law_pairs_right" "_law_pairs_right" (defArgs s__law_pairs_right) (defBody s__law_pairs_right) (defScope s__law_pairs_right) .none kV__law_pairs_right dc__law_pairs_right pm__law_pairs_right an__law_pairs_right cd__law_pairs_right ct__law_pairs_right), sl__law_pairs_right⟩) (c__law_pairs_right : PySem.W.codeIn K cd__law_pairs_right "_law_pairs_right" = true) (k__law_pairs_right : PySem.W.keepIn K (.ref f__law_pairs_right) = true)
  {od_law an_law : Option Addr} {sl_law : Array (Option Value)} {oc_law kV_law dc_law pm_law cd_law ct_law : Value}
  (a_law : PySem.W.nsIn K mainGlobals "law" = some (some (.ref f_law))) (l_law : K.lookup f_law = some ⟨oc_law, od_law, .func (PySem.W.fnOf "law" "law" (defArgs s_law) (defBody s_law) (defScope s_law) .none kV_law dc_law pm_law an_law cd_law ct_law), sl_law⟩) (c_law : PySem.W.codeIn K cd_law "law" = true) (k_law : PySem.W.keepIn K (.ref f_law) = true)
  (z_abs : PySem.W.nsIn K mainGlobals "abs" = some none)
  (z_all : PySem.W.nsIn K mainGlobals "all" = some none)
  (z_bool : PySem.W.nsIn K mainGlobals "bool" = some none)
  {tk_c_GREAT : Tok} (z_c_GREAT : PySem.W.nsIn K mainGlobals "GREAT" = some (some (.int (999999999999999999999999999999999999999999999999999999999999) tk_c_GREAT)))
  {tk_c_MOST_CORNERS : Tok} (z_c_MOST_CORNERS : PySem.W.nsIn K mainGlobals "MOST_CORNERS" = some (some (.int (60) tk_c_MOST_CORNERS)))
  {tk_c_MOST_TIMES : Tok} (z_c_MOST_TIMES : PySem.W.nsIn K mainGlobals "MOST_TIMES" = some (some (.int (1000000000) tk_c_MOST_TIMES)))
  (z_enumerate : PySem.W.nsIn K mainGlobals "enumerate" = some none)
  (z_int : PySem.W.nsIn K mainGlobals "int" = some none)
  (z_isinstance : PySem.W.nsIn K mainGlobals "isinstance" = some none)
  (z_len : PySem.W.nsIn K mainGlobals "len" = some none)
  (z_max : PySem.W.nsIn K mainGlobals "max" = some none)
  (z_min : PySem.W.nsIn K mainGlobals "min" = some none)
  (z_range : PySem.W.nsIn K mainGlobals "range" = some none)
  (z_sorted : PySem.W.nsIn K mainGlobals "sorted" = some none)
  (z_sum : PySem.W.nsIn K mainGlobals "sum" = some none)
  (z_tuple : PySem.W.nsIn K mainGlobals "tuple" = some none)
  (z_zip : PySem.W.nsIn K mainGlobals "zip" = some none) :
  ∃ fd : FuncData, (∀ (s : Shared) (v : Value), BindsTo s fd ⟨[v], []⟩ [("script", v)]) ∧ ∀ base : Heap, K.In base → base.Ns mainGlobals mg → FnOk l.prog w K mg base CX0 13 fa fd ["script"] (spR K R_law) := by
  have e := hfa.symm.trans (PySem.W.mg_of X G a_law)
  cases e
  have T : Txt K mg := ⟨PySem.W.mg_none_of X G z_abs, PySem.W.mg_none_of X G z_all, PySem.W.mg_none_of X G z_bool, ⟨_, PySem.W.mg_of X G z_c_GREAT⟩, ⟨_, PySem.W.mg_of X G z_c_MOST_CORNERS⟩, ⟨_, PySem.W.mg_of X G z_c_MOST_TIMES⟩, PySem.W.mg_none_of X G z_enumerate, PySem.W.mg_none_of X G z_int, PySem.W.mg_none_of X G z_isinstance, PySem.W.mg_none_of X G z_len, PySem.W.mg_none_of X G z_max, PySem.W.mg_none_of X G z_min, PySem.W.mg_none_of X G z_range, PySem.W.mg_none_of X G z_sorted, PySem.W.mg_none_of X G z_sum, PySem.W.mg_none_of X G z_tuple, PySem.W.mg_none_of X G z_zip⟩
  refine ⟨PySem.W.fnOf "law" "law" (defArgs s_law) (defBody s_law) (defScope s_law) .none kV_law dc_law pm_law an_law cd_law ct_law, fun s v => .of_eq rfl, fun base _ _ => ?_⟩
  have k_law_dice : Kn l.prog w K mg base 1 "_law_dice" R__law_dice := kn__law_dice T (fun_mk (st := s__law_dice) l__law_dice c__law_dice k__law_dice) (PySem.W.mg_of X G a__law_dice) 
  have k_law_roll : Kn l.prog w K mg base 1 "_law_roll" R__law_roll := kn__law_roll T (fun_mk (st := s__law_roll) l__law_roll c__law_roll k__law_roll) (PySem.W.mg_of X G a__law_roll) 
  have k_law_great : Kn l.prog w K mg base 2 "_law_great" R__law_great := kn__law_great T (fun_mk (st := s__law_great) l__law_great c__law_great k__law_great) (PySem.W.mg_of X G a__law_great) k_law_roll
  have k_law_one_of : Kn l.prog w K mg base 2 "_law_one_of" R__law_one_of := kn__law_one_of T (fun_mk (st := s__law_one_of) l__law_one_of c__law_one_of k__law_one_of) (PySem.W.mg_of X G a__law_one_of) k_law_roll
  have k_law_signed : Kn l.prog w K mg base 3 "_law_signed" R__law_signed := kn__law_signed T (fun_mk (st := s__law_signed) l__law_signed c__law_signed k__law_signed) (PySem.W.mg_of X G a__law_signed) k_law_great k_law_one_of
  have kis_within : Kn l.prog w K mg base 1 "is_within" R_is_within := kn_is_within T (fun_mk (st := s_is_within) l_is_within c_is_within k_is_within) (PySem.W.mg_of X G a_is_within) 
  have krequire_many : Kn l.prog w K mg base 2 "require_many" R_require_many := kn_require_many T (fun_mk (st := s_require_many) l_require_many c_require_many k_require_many) (PySem.W.mg_of X G a_require_many) kis_within
  have kis_integer : Kn l.prog w K mg base 2 "is_integer" R_is_integer := kn_is_integer T (fun_mk (st := s_is_integer) l_is_integer c_is_integer k_is_integer) (PySem.W.mg_of X G a_is_integer) kis_within
  have krequire_integer : Kn l.prog w K mg base 3 "require_integer" R_require_integer := kn_require_integer T (fun_mk (st := s_require_integer) l_require_integer c_require_integer k_require_integer) (PySem.W.mg_of X G a_require_integer) kis_integer
  have kfloors_in : Kn l.prog w K mg base 1 "floors_in" R_floors_in := kn_floors_in T (fun_mk (st := s_floors_in) l_floors_in c_floors_in k_floors_in) (PySem.W.mg_of X G a_floors_in) 
  have kfloor_sum : Kn l.prog w K mg base 4 "floor_sum" R_floor_sum := kn_floor_sum T (fun_mk (st := s_floor_sum) l_floor_sum c_floor_sum k_floor_sum) (PySem.W.mg_of X G a_floor_sum) krequire_many krequire_integer kfloors_in
  have k_law_parts_right : Kn l.prog w K mg base 5 "_law_parts_right" R__law_parts_right := kn__law_parts_right T (fun_mk (st := s__law_parts_right) l__law_parts_right c__law_parts_right k__law_parts_right) (PySem.W.mg_of X G a__law_parts_right) k_law_great k_law_one_of k_law_signed kfloor_sum k_law_roll
  have k_law_common : Kn l.prog w K mg base 1 "_law_common" R__law_common := kn__law_common T (fun_mk (st := s__law_common) l__law_common c__law_common k__law_common) (PySem.W.mg_of X G a__law_common) 
  have k_law_rests_right : Kn l.prog w K mg base 5 "_law_rests_right" R__law_rests_right := kn__law_rests_right T (fun_mk (st := s__law_rests_right) l__law_rests_right c__law_rests_right k__law_rests_right) (PySem.W.mg_of X G a__law_rests_right) k_law_great k_law_one_of k_law_signed k_law_common kfloor_sum
  have kcommon : Kn l.prog w K mg base 1 "common" R_common := kn_common T (fun_mk (st := s_common) l_common c_common k_common) (PySem.W.mg_of X G a_common) 
  have kis_point_of : Kn l.prog w K mg base 2 "is_point_of" R_is_point_of := kn_is_point_of T (fun_mk (st := s_is_point_of) l_is_point_of c_is_point_of k_is_point_of) (PySem.W.mg_of X G a_is_point_of) kis_within kcommon
  have kare_corners_of : Kn l.prog w K mg base 3 "are_corners_of" R_are_corners_of := kn_are_corners_of T (fun_mk (st := s_are_corners_of) l_are_corners_of c_are_corners_of k_are_corners_of) (PySem.W.mg_of X G a_are_corners_of) kis_point_of
  have krequire_corners : Kn l.prog w K mg base 4 "require_corners" R_require_corners := kn_require_corners T (fun_mk (st := s_require_corners) l_require_corners c_require_corners k_require_corners) (PySem.W.mg_of X G a_require_corners) kare_corners_of
  have ksign_of : Kn l.prog w K mg base 1 "sign_of" R_sign_of := kn_sign_of T (fun_mk (st := s_sign_of) l_sign_of c_sign_of k_sign_of) (PySem.W.mg_of X G a_sign_of) 
  have kdotted : Kn l.prog w K mg base 1 "dotted" R_dotted := kn_dotted T (fun_mk (st := s_dotted) l_dotted c_dotted k_dotted) (PySem.W.mg_of X G a_dotted) 
  have kcrossed : Kn l.prog w K mg base 1 "crossed" R_crossed := kn_crossed T (fun_mk (st := s_crossed) l_crossed c_crossed k_crossed) (PySem.W.mg_of X G a_crossed) 
  have kturn_in : Kn l.prog w K mg base 2 "turn_in" R_turn_in := kn_turn_in T (fun_mk (st := s_turn_in) l_turn_in c_turn_in k_turn_in) (PySem.W.mg_of X G a_turn_in) ksign_of kdotted kcrossed
  have kbehind : Kn l.prog w K mg base 1 "behind" R_behind := kn_behind T (fun_mk (st := s_behind) l_behind c_behind k_behind) (PySem.W.mg_of X G a_behind) 
  have kbent_in : Kn l.prog w K mg base 3 "bent_in" R_bent_in := kn_bent_in T (fun_mk (st := s_bent_in) l_bent_in c_bent_in k_bent_in) (PySem.W.mg_of X G a_bent_in) kturn_in kbehind
  have kstraight_in : Kn l.prog w K mg base 4 "straight_in" R_straight_in := kn_straight_in T (fun_mk (st := s_straight_in) l_straight_in c_straight_in k_straight_in) (PySem.W.mg_of X G a_straight_in) kbent_in
  have korder_in : Kn l.prog w K mg base 2 "order_in" R_order_in := kn_order_in T (fun_mk (st := s_order_in) l_order_in c_order_in k_order_in) (PySem.W.mg_of X G a_order_in) ksign_of
  have kpiece_in : Kn l.prog w K mg base 3 "piece_in" R_piece_in := kn_piece_in T (fun_mk (st := s_piece_in) l_piece_in c_piece_in k_piece_in) (PySem.W.mg_of X G a_piece_in) korder_in
  have kedges_in : Kn l.prog w K mg base 4 "edges_in" R_edges_in := kn_edges_in T (fun_mk (st := s_edges_in) l_edges_in c_edges_in k_edges_in) (PySem.W.mg_of X G a_edges_in) kpiece_in kbehind
  have kalong_in : Kn l.prog w K mg base 3 "along_in" R_along_in := kn_along_in T (fun_mk (st := s_along_in) l_along_in c_along_in k_along_in) (PySem.W.mg_of X G a_along_in) korder_in
  have klowest : Kn l.prog w K mg base 2 "lowest" R_lowest := kn_lowest T (fun_mk (st := s_lowest) l_lowest c_lowest k_lowest) (PySem.W.mg_of X G a_lowest) kcommon
  have kpoint_of : Kn l.prog w K mg base 3 "point_of" R_point_of := kn_point_of T (fun_mk (st := s_point_of) l_point_of c_point_of k_point_of) (PySem.W.mg_of X G a_point_of) klowest
  have kmeet_in : Kn l.prog w K mg base 4 "meet_in" R_meet_in := kn_meet_in T (fun_mk (st := s_meet_in) l_meet_in c_meet_in k_meet_in) (PySem.W.mg_of X G a_meet_in) kcrossed kpoint_of
  have kline_of : Kn l.prog w K mg base 3 "line_of" R_line_of := kn_line_of T (fun_mk (st := s_line_of) l_line_of c_line_of k_line_of) (PySem.W.mg_of X G a_line_of) klowest
  have kline_in : Kn l.prog w K mg base 4 "line_in" R_line_in := kn_line_in T (fun_mk (st := s_line_in) l_line_in c_line_in k_line_in) (PySem.W.mg_of X G a_line_in) kcrossed kline_of
  have kcross_in : Kn l.prog w K mg base 5 "cross_in" R_cross_in := kn_cross_in T (fun_mk (st := s_cross_in) l_cross_in c_cross_in k_cross_in) (PySem.W.mg_of X G a_cross_in) kturn_in kalong_in kmeet_in kline_in
  have kdo_meet : Kn l.prog w K mg base 6 "do_meet" R_do_meet := kn_do_meet T (fun_mk (st := s_do_meet) l_do_meet c_do_meet k_do_meet) (PySem.W.mg_of X G a_do_meet) kcross_in
  have kmeets_in : Kn l.prog w K mg base 7 "meets_in" R_meets_in := kn_meets_in T (fun_mk (st := s_meets_in) l_meets_in c_meets_in k_meets_in) (PySem.W.mg_of X G a_meets_in) kedges_in kdo_meet
  have kfraction_in : Kn l.prog w K mg base 2 "fraction_in" R_fraction_in := kn_fraction_in T (fun_mk (st := s_fraction_in) l_fraction_in c_fraction_in k_fraction_in) (PySem.W.mg_of X G a_fraction_in) kcommon
  have kadded : Kn l.prog w K mg base 3 "added" R_added := kn_added T (fun_mk (st := s_added) l_added c_added k_added) (PySem.W.mg_of X G a_added) kfraction_in
  have karea_in : Kn l.prog w K mg base 3 "area_in" R_area_in := kn_area_in T (fun_mk (st := s_area_in) l_area_in c_area_in k_area_in) (PySem.W.mg_of X G a_area_in) kfraction_in kdotted kcrossed
  have karea_of : Kn l.prog w K mg base 4 "area_of" R_area_of := kn_area_of T (fun_mk (st := s_area_of) l_area_of c_area_of k_area_of) (PySem.W.mg_of X G a_area_of) kadded karea_in
  have ktold_ring : Kn l.prog w K mg base 5 "told_ring" R_told_ring := kn_told_ring T (fun_mk (st := s_told_ring) l_told_ring c_told_ring k_told_ring) (PySem.W.mg_of X G a_told_ring) karea_of korder_in
  have kring_by : Kn l.prog w K mg base 8 "ring_by" R_ring_by := kn_ring_by T (fun_mk (st := s_ring_by) l_ring_by c_ring_by k_ring_by) (PySem.W.mg_of X G a_ring_by) krequire_corners kstraight_in kmeets_in ktold_ring
  have kis_ring_of : Kn l.prog w K mg base 8 "is_ring_of" R_is_ring_of := kn_is_ring_of T (fun_mk (st := s_is_ring_of) l_is_ring_of c_is_ring_of k_is_ring_of) (PySem.W.mg_of X G a_is_ring_of) kare_corners_of kstraight_in kmeets_in ktold_ring
  have krequire_ring : Kn l.prog w K mg base 9 "require_ring" R_require_ring := kn_require_ring T (fun_mk (st := s_require_ring) l_require_ring c_require_ring k_require_ring) (PySem.W.mg_of X G a_require_ring) kis_ring_of
  have kis_whole_in : Kn l.prog w K mg base 1 "is_whole_in" R_is_whole_in := kn_is_whole_in T (fun_mk (st := s_is_whole_in) l_is_whole_in c_is_whole_in k_is_whole_in) (PySem.W.mg_of X G a_is_whole_in) 
  have krequire_whole_ring : Kn l.prog w K mg base 10 "require_whole_ring" R_require_whole_ring := kn_require_whole_ring T (fun_mk (st := s_require_whole_ring) l_require_whole_ring c_require_whole_ring k_require_whole_ring) (PySem.W.mg_of X G a_require_whole_ring) krequire_ring kis_whole_in
  have krim_in : Kn l.prog w K mg base 5 "rim_in" R_rim_in := kn_rim_in T (fun_mk (st := s_rim_in) l_rim_in c_rim_in k_rim_in) (PySem.W.mg_of X G a_rim_in) kedges_in kcommon
  have krim_points : Kn l.prog w K mg base 11 "rim_points" R_rim_points := kn_rim_points T (fun_mk (st := s_rim_points) l_rim_points c_rim_points k_rim_points) (PySem.W.mg_of X G a_rim_points) krequire_whole_ring krim_in
  have kinner_in : Kn l.prog w K mg base 6 "inner_in" R_inner_in := kn_inner_in T (fun_mk (st := s_inner_in) l_inner_in c_inner_in k_inner_in) (PySem.W.mg_of X G a_inner_in) karea_of krim_in
  have kwithin_points : Kn l.prog w K mg base 11 "within_points" R_within_points := kn_within_points T (fun_mk (st := s_within_points) l_within_points c_within_points k_within_points) (PySem.W.mg_of X G a_within_points) krequire_whole_ring kinner_in
  have k_law_pairs_right : Kn l.prog w K mg base 12 "_law_pairs_right" R__law_pairs_right := kn__law_pairs_right T (fun_mk (st := s__law_pairs_right) l__law_pairs_right c__law_pairs_right k__law_pairs_right) (PySem.W.mg_of X G a__law_pairs_right) k_law_one_of k_law_roll k_law_great k_law_common kfloor_sum kring_by krim_points kwithin_points
  exact fn_law T (fun_mk (st := s_law) l_law c_law k_law) k_law_dice k_law_parts_right k_law_rests_right k_law_pairs_right kfloor_sum
end Abs
/-! Sums of floors in plain Lean. -/
namespace Flo
def sm : Nat → (Nat → Int) → Int
  | 0, _ => 0
  | n + 1, f => sm n f + f n
theorem sm_congr : ∀ {n : Nat} {f g : Nat → Int}, (∀ i, i < n → f i = g i) → sm n f = sm n g
  | 0, _, _, _ => rfl
  | n + 1, f, g, h => by
    unfold sm
    rw [sm_congr (n := n) (fun i hi => h i (by omega)), h n (by omega)]
theorem sm_add : ∀ (n : Nat) (f g : Nat → Int), sm n (fun i => f i + g i) = sm n f + sm n g
  | 0, _, _ => rfl
  | n + 1, f, g => by unfold sm; rw [sm_add n f g]; grind
theorem sm_sub : ∀ (n : Nat) (f g : Nat → Int), sm n (fun i => f i - g i) = sm n f - sm n g
  | 0, _, _ => rfl
  | n + 1, f, g => by unfold sm; rw [sm_sub n f g]; grind
theorem sm_neg : ∀ (n : Nat) (f : Nat → Int), sm n (fun i => - f i) = - sm n f
  | 0, _ => rfl
  | n + 1, f => by unfold sm; rw [sm_neg n f]; grind
theorem sm_const : ∀ (n : Nat) (c : Int), sm n (fun _ => c) = n * c
  | 0, _ => by simp [sm]
  | n + 1, c => by unfold sm; rw [sm_const n c]; grind
theorem sm_zero {n : Nat} {f : Nat → Int} (h : ∀ i, i < n → f i = 0) : sm n f = 0 := by
  rw [sm_congr h, sm_const]; simp
theorem sm_mul : ∀ (n : Nat) (c : Int) (f : Nat → Int), sm n (fun i => c * f i) = c * sm n f
  | 0, _, _ => by simp [sm]
  | n + 1, c, f => by unfold sm; rw [sm_mul n c f]; grind
/-- twice 0 + 1 + .. + (n - 1) -/
theorem sm_id2 : ∀ n : Nat, 2 * sm n (fun i => (i : Int)) = (n : Int) * ((n : Int) - 1)
  | 0 => by simp [sm]
  | n + 1 => by
    have ih := sm_id2 n
    unfold sm
    push_cast
    grind
theorem sm_id (n : Nat) : sm n (fun i => (i : Int)) = (n : Int) * ((n : Int) - 1) / 2 := by
  have h := sm_id2 n
  omega
theorem sm_app : ∀ (m n : Nat) (f : Nat → Int), sm (m + n) f = sm m f + sm n (fun i => f (m + i))
  | m, 0, f => by simp [sm]
  | m, n + 1, f => by
    show sm (m + n) f + f (m + n) = sm m f + (sm n (fun i => f (m + i)) + f (m + n))
    rw [sm_app m n f]; omega
theorem sm_front (n : Nat) (f : Nat → Int) : sm (n + 1) f = f 0 + sm n (fun i => f (i + 1)) := by
  have h := sm_app 1 n f
  rw [show 1 + n = n + 1 by omega] at h
  rw [h]
  have e : sm 1 f = f 0 := by simp [sm]
  rw [e]
  congr 1
  exact sm_congr fun i _ => by rw [Nat.add_comm]
theorem sm_rev : ∀ (n : Nat) (f : Nat → Int), sm n f = sm n (fun i => f (n - 1 - i))
  | 0, _ => rfl
  | n + 1, f => by
    rw [sm_front n (fun i => f (n + 1 - 1 - i))]
    show sm n f + f n = f (n + 1 - 1 - 0) + _
    rw [sm_rev n f]
    have : sm n (fun i => f (n - 1 - i)) = sm n (fun i => f (n + 1 - 1 - (i + 1))) := sm_congr fun i hi => by congr 1; omega
    rw [this]
    simp only [Nat.add_sub_cancel, Nat.sub_zero]
    omega
/-- the sum of floors -/
def S (n : Nat) (a b m : Int) : Int := sm n (fun i => (a * (i : Int) + b) / m)
theorem S_step (n : Nat) (a b m : Int) (hm : 0 < m) : S n a b m = (n : Int) * ((n : Int) - 1) / 2 * (a / m) + (n : Int) * (b / m) + S n (a % m) (b % m) m := by
  unfold S
  have h : ∀ i : Nat, (a * (i : Int) + b) / m = ((a / m) * (i : Int) + b / m) + ((a % m) * (i : Int) + b % m) / m := fun i => by
    have e : a * (i : Int) + b = ((a % m) * (i : Int) + b % m) + ((a / m) * (i : Int) + b / m) * m := by
      have h1 := Int.mul_ediv_add_emod a m
      have h2 := Int.mul_ediv_add_emod b m
      grind
    rw [e, Int.add_mul_ediv_right _ _ (by omega)]
    omega
  rw [sm_congr (fun i _ => h i), sm_add, sm_add, sm_mul, sm_const, sm_id]
  grind
/-- all floors are nothing -/
theorem S_small (n : Nat) (a b m : Int) (ha : 0 ≤ a) (hb : 0 ≤ b) (h : a * ((n : Int) - 1) + b < m) : S n a b m = 0 := by
  unfold S
  refine sm_zero fun i hi => ?_
  have h1 : a * (i : Int) ≤ a * ((n : Int) - 1) := Int.mul_le_mul_of_nonneg_left (by omega) ha
  have h2 : 0 ≤ a * (i : Int) := Int.mul_nonneg ha (by omega)
  exact Int.ediv_eq_zero_of_lt (by omega) (by omega)
/-- by what stands behind: G n M is the sum of floor((a n + b - m j) / a), j from 1 to M -/
def G (a b m : Int) (n : Int) (M : Nat) : Int := sm M (fun j => (a * n + b - m * ((j : Int) + 1)) / a)
theorem G_up (a b m n : Int) (M : Nat) (ha : 0 < a) : G a b m (n + 1) M = G a b m n M + M := by
  unfold G
  have : ∀ j : Nat, (a * (n + 1) + b - m * ((j : Int) + 1)) / a = (a * n + b - m * ((j : Int) + 1)) / a + 1 := fun j => by
    rw [show a * (n + 1) + b - m * ((j : Int) + 1) = (a * n + b - m * ((j : Int) + 1)) + 1 * a by grind, Int.add_mul_ediv_right _ _ (by omega)]
  rw [sm_congr (fun j _ => this j), sm_add, sm_const]
  omega
/-- members that are nothing -/
theorem G_ext (a b m n : Int) (M k : Nat) (ha : 0 < a) (hm : 0 < m) (h1 : a * (n - 1) + b < m * ((M : Int) + 1)) (h2 : m * ((M : Int) + k) ≤ a * n + b) : G a b m n (M + k) = G a b m n M := by
  unfold G
  rw [sm_app]
  have : sm k (fun i => (a * n + b - m * (((M + i : Nat) : Int) + 1)) / a) = 0 := sm_zero fun i hi => by
    have e1 : m * ((M : Int) + 1) ≤ m * (((M + i : Nat) : Int) + 1) := Int.mul_le_mul_of_nonneg_left (by omega) (by omega)
    have e2 : m * (((M + i : Nat) : Int) + 1) ≤ m * ((M : Int) + k) := Int.mul_le_mul_of_nonneg_left (by omega) (by omega)
    have e3 : a * (n - 1) = a * n - a := by grind
    exact Int.ediv_eq_zero_of_lt (by omega) (by omega)
  rw [this]; omega
theorem S_G (a b m : Int) (ha : 0 < a) (hm : 0 < m) (hb : 0 ≤ b) (hbm : b < m) : ∀ n : Nat, S n a b m = G a b m n ((a * n + b) / m).toNat
  | 0 => by
    have e : (a * ((0 : Nat) : Int) + b) / m = 0 := by
      simp
      exact Int.ediv_eq_zero_of_lt hb hbm
    rw [e]; rfl
  | n + 1 => by
    have ih := S_G a b m ha hm hb hbm n
    have h0 : 0 ≤ a * (n : Int) := Int.mul_nonneg (by omega) (by omega)
    have hM : 0 ≤ (a * (n : Int) + b) / m := Int.ediv_nonneg (by omega) (by omega)
    have e1 : a * ((n + 1 : Nat) : Int) = a * (n : Int) + a := by push_cast; grind
    have hMM : (a * (n : Int) + b) / m ≤ (a * ((n + 1 : Nat) : Int) + b) / m := Int.ediv_le_ediv (by omega) (by omega)
    have s : S (n + 1) a b m = S n a b m + (a * (n : Int) + b) / m := rfl
    rw [s, ih]
    obtain ⟨k, hk⟩ : ∃ k : Nat, ((a * ((n + 1 : Nat) : Int) + b) / m).toNat = ((a * (n : Int) + b) / m).toNat + k := ⟨((a * ((n + 1 : Nat) : Int) + b) / m).toNat - ((a * (n : Int) + b) / m).toNat, by omega⟩
    have c1 : (((a * (n : Int) + b) / m).toNat : Int) = (a * (n : Int) + b) / m := by omega
    have c2 : (((a * (n : Int) + b) / m).toNat : Int) + (k : Int) = (a * ((n + 1 : Nat) : Int) + b) / m := by omega
    rw [hk, G_ext a b m _ _ k ha hm]
    · have := G_up a b m n ((a * (n : Int) + b) / m).toNat ha
      push_cast at this ⊢
      rw [this]
      omega
    · have h := Int.lt_mul_ediv_self_add (x := a * (n : Int) + b) hm
      rw [c1]
      have e2 : a * (((n + 1 : Nat) : Int) - 1) = a * (n : Int) := by push_cast; congr 1; omega
      rw [e2]
      grind
    · rw [c2]
      have h := Int.mul_ediv_self_le (x := a * ((n + 1 : Nat) : Int) + b) (k := m) (by omega)
      exact h
/-- the exchange that floors_in makes -/
theorem S_swap (n : Nat) (a b m : Int) (ha : 0 < a) (hm : 0 < m) (hb : 0 ≤ b) (hbm : b < m) : S n a b m = S ((a * n + b) / m).toNat m ((a * n + b) % m) a := by
  rw [S_G a b m ha hm hb hbm n]
  unfold G S
  rw [sm_rev]
  refine sm_congr fun i hi => ?_
  have h0 : 0 ≤ a * (n : Int) := Int.mul_nonneg (by omega) (by omega)
  have hM : 0 ≤ (a * (n : Int) + b) / m := Int.ediv_nonneg (by omega) (by omega)
  congr 1
  have e := Int.mul_ediv_add_emod (a * (n : Int) + b) m
  have c : ((((a * (n : Int) + b) / m).toNat - 1 - i : Nat) : Int) = (a * (n : Int) + b) / m - 1 - i := by omega
  rw [c]
  grind
/-- from above -/
theorem S_top (n : Nat) (a b m : Int) (ha : 0 < a) (hm : 0 < m) (hb : 0 ≤ b) (hbm : b < m) (T : Nat) (hT1 : m * (T : Int) ≤ a * ((n : Int) - 1) + b) (hT2 : a * ((n : Int) - 1) + b < m * ((T : Int) + 1)) : S n a b m = (n : Int) * T - S T m (m - b + a - 1) a := by
  have h0 : 0 ≤ a * (n : Int) := Int.mul_nonneg (by omega) (by omega)
  have hM : 0 ≤ (a * (n : Int) + b) / m := Int.ediv_nonneg (by omega) (by omega)
  have e1 : a * ((n : Int) - 1) = a * (n : Int) - a := by grind
  have hTM : (T : Int) ≤ (a * (n : Int) + b) / m := (Int.le_ediv_iff_mul_le hm).mpr (by grind)
  obtain ⟨k, hk⟩ : ∃ k : Nat, ((a * (n : Int) + b) / m).toNat = T + k := ⟨((a * (n : Int) + b) / m).toNat - T, by omega⟩
  rw [S_G a b m ha hm hb hbm n, hk, G_ext a b m n T k ha hm hT2]
  · unfold G S
    have : ∀ j : Nat, (a * (n : Int) + b - m * ((j : Int) + 1)) / a = (n : Int) - (m * (j : Int) + (m - b + a - 1)) / a := fun j => by
      rw [show a * (n : Int) + b - m * ((j : Int) + 1) = (b - m * ((j : Int) + 1)) + (n : Int) * a by grind, Int.add_mul_ediv_right _ _ (by omega)]
      generalize hx : m * ((j : Int) + 1) - b = x
      rw [show b - m * ((j : Int) + 1) = - x by omega, show m * (j : Int) + (m - b + a - 1) = x + (a - 1) by grind]
      -- (-x)/a = -((x + a - 1)/a)
      have q1 := Int.mul_ediv_add_emod (-x) a
      have q2 := Int.mul_ediv_add_emod (x + (a - 1)) a
      have r1 := Int.emod_nonneg (-x) (show a ≠ 0 by omega)
      have r2 := Int.emod_lt_of_pos (-x) ha
      have r3 := Int.emod_nonneg (x + (a - 1)) (show a ≠ 0 by omega)
      have r4 := Int.emod_lt_of_pos (x + (a - 1)) ha
      generalize (-x) / a = u at *
      generalize (x + (a - 1)) / a = v at *
      have h1 : a * (u + v) < a * 1 := by rw [Int.mul_add]; omega
      have h2 : a * (-1) < a * (u + v) := by rw [Int.mul_add]; omega
      have h3 := Int.lt_of_mul_lt_mul_left h1 (by omega)
      have h4 := Int.lt_of_mul_lt_mul_left h2 (by omega)
      omega
    rw [sm_congr (fun j _ => this j), sm_sub, sm_const]
    grind
  · have h := Int.mul_ediv_self_le (x := a * (n : Int) + b) (k := m) (by omega)
    have c2 : (T : Int) + (k : Int) = (a * (n : Int) + b) / m := by omega
    rw [c2]; exact h
end Flo
namespace Flo
theorem bez : ∀ a b : Nat, ∃ x y : Int, ((Nat.gcd a b : Nat) : Int) = a * x + b * y := by
  intro a b
  induction a, b using Nat.gcd.induction with
  | H0 n => exact ⟨0, 1, by simp⟩
  | H1 m n hm ih =>
    obtain ⟨x, y, h⟩ := ih
    refine ⟨y - (n / m : Nat) * x, x, ?_⟩
    rw [Nat.gcd_rec, h]
    have e := Nat.div_add_mod n m
    have e2 : (n : Int) = m * ((n / m : Nat) : Int) + ((n % m : Nat) : Int) := by exact_mod_cast e.symm
    rw [show (n : Int) * x = (m * ((n / m : Nat) : Int) + ((n % m : Nat) : Int)) * x by rw [← e2]]
    grind
/-- the greatest common divisor of ints -/
def gc (a b : Int) : Int := (Nat.gcd a.natAbs b.natAbs : Nat)
theorem gc_nonneg (a b : Int) : 0 ≤ gc a b := by unfold gc; omega
theorem gc_comm (a b : Int) : gc a b = gc b a := by unfold gc; rw [Nat.gcd_comm]
theorem gc_dvd_left (a b : Int) : gc a b ∣ a := by
  unfold gc
  exact Int.natAbs_dvd_natAbs.mp (by simpa using Nat.gcd_dvd_left a.natAbs b.natAbs)
theorem gc_dvd_right (a b : Int) : gc a b ∣ b := by
  unfold gc
  exact Int.natAbs_dvd_natAbs.mp (by simpa using Nat.gcd_dvd_right a.natAbs b.natAbs)
theorem gc_pos (a b : Int) (hb : 0 < b) : 0 < gc a b := by
  unfold gc
  have : 0 < Nat.gcd a.natAbs b.natAbs := Nat.gcd_pos_of_pos_right _ (by omega)
  omega
theorem gc_le (a b : Int) (hb : 0 < b) : gc a b ≤ b := Int.le_of_dvd hb (gc_dvd_right a b)
/-- u with a u = g + m w -/
theorem bezI (a m : Int) (hm : 0 < m) : ∃ (u : Nat) (w : Int), a * u = gc a m + m * w := by
  obtain ⟨x, y, h⟩ := bez a.natAbs m.natAbs
  have hm' : (m.natAbs : Int) = m := by omega
  rw [hm'] at h
  obtain ⟨x', hx'⟩ : ∃ x' : Int, (a.natAbs : Int) * x = a * x' := by
    rcases Int.le_total 0 a with q | q
    · exact ⟨x, by rw [show (a.natAbs : Int) = a by omega]⟩
    · exact ⟨-x, by rw [show (a.natAbs : Int) = -a by omega]; grind⟩
  rw [hx'] at h
  have h : gc a m = a * x' + m * y := h
  -- x' + m * k ≥ 0
  have h1 := Int.mul_ediv_add_emod x' m
  have h2 := Int.emod_nonneg x' (show m ≠ 0 by omega)
  refine ⟨(x' % m).toNat, a * (-(x' / m)) - y, ?_⟩
  rw [show (((x' % m).toNat : Nat) : Int) = x' % m by omega, h]
  have : x' % m = x' - m * (x' / m) := by omega
  rw [this]
  grind
theorem sm_shift (m : Nat) (h : Nat → Int) (a : Int) (hp : ∀ t, h (t + m) = h t + a) : ∀ u : Nat, sm m (fun i => h (i + u)) = sm m h + u * a
  | 0 => by simp
  | u + 1 => by
    have ih := sm_shift m h a hp u
    have e1 := sm_front m (fun i => h (i + u))
    have e2 : sm (m + 1) (fun i => h (i + u)) = sm m (fun i => h (i + u)) + h (m + u) := rfl
    have e3 : sm m (fun i => h (i + (u + 1))) = sm m (fun i => h (i + 1 + u)) := sm_congr fun i _ => by congr 1; omega
    rw [e3]
    have e4 : h (m + u) = h u + a := by rw [Nat.add_comm]; exact hp u
    have e5 : h (0 + u) = h u := by rw [Nat.zero_add]
    rw [e5] at e1
    push_cast
    grind
theorem F_up (m : Nat) (a b : Int) (hm : 0 < m) : S m a (b + gc a m) m = S m a b m + gc a m := by
  obtain ⟨u, w, h⟩ := bezI a m (by omega)
  unfold S
  have e : ∀ i : Nat, (a * (i : Int) + (b + gc a m)) / (m : Int) = (a * ((i + u : Nat) : Int) + b) / (m : Int) - w := fun i => by
    rw [show a * (i : Int) + (b + gc a m) = (a * ((i + u : Nat) : Int) + b) + (-w) * (m : Int) by push_cast; grind, Int.add_mul_ediv_right _ _ (by omega)]
    omega
  rw [sm_congr (fun i _ => e i), sm_sub, sm_const, sm_shift m (fun i => (a * (i : Int) + b) / (m : Int)) a (fun t => ?_) u]
  · grind
  · rw [show a * ((t + m : Nat) : Int) + b = (a * (t : Int) + b) + a * (m : Int) by push_cast; grind, Int.add_mul_ediv_right _ _ (by omega)]
theorem F_upN (m : Nat) (a b : Int) (hm : 0 < m) : ∀ k : Nat, S m a (b + gc a m * k) m = S m a b m + gc a m * k
  | 0 => by simp
  | k + 1 => by
    have ih := F_upN m a b hm k
    have := F_up m a (b + gc a m * k) hm
    rw [show b + gc a m * ((k + 1 : Nat) : Int) = b + gc a m * k + gc a m by push_cast; grind, this, ih]
    push_cast; grind
theorem F_upI (m : Nat) (a b : Int) (hm : 0 < m) (k : Int) : S m a (b + gc a m * k) m = S m a b m + gc a m * k := by
  rcases Int.le_total 0 k with q | q
  · have := F_upN m a b hm k.toNat
    rw [show ((k.toNat : Nat) : Int) = k by omega] at this
    exact this
  · have := F_upN m a (b + gc a m * k) hm (-k).toNat
    rw [show (((-k).toNat : Nat) : Int) = -k by omega, show b + gc a m * k + gc a m * -k = b by grind] at this
    rw [this]; grind
/-- less than the common divisor: nothing is added -/
theorem div_small (x g m f : Int) (hg : 0 < g) (hm : 0 < m) (hx : g ∣ x) (hgm : g ∣ m) (hf : 0 ≤ f) (hfg : f < g) : (x + f) / m = x / m := by
  obtain ⟨y, rfl⟩ := hx
  obtain ⟨n, rfl⟩ := hgm
  have hn : 0 < n := by
    rcases Int.lt_or_le 0 n with q | q
    · exact q
    · have := Int.mul_le_mul_of_nonneg_left q (show 0 ≤ g by omega)
      omega
  rw [Int.mul_ediv_mul_of_pos _ _ hg, ← Int.ediv_ediv_of_nonneg (by omega), Int.add_comm, Int.add_mul_ediv_left _ _ (by omega), Int.ediv_eq_zero_of_lt hf hfg, Int.zero_add]
theorem F_small (m : Nat) (a f : Int) (hm : 0 < m) (hf : 0 ≤ f) (hfg : f < gc a m) : S m a f m = S m a 0 m := by
  unfold S
  refine sm_congr fun i _ => ?_
  rw [Int.add_zero]
  exact div_small _ (gc a m) _ _ (gc_pos a m (by omega)) (by omega) (Int.dvd_mul_of_dvd_left (gc_dvd_left a m)) (gc_dvd_right a m) hf hfg
theorem F_full (m : Nat) (a b : Int) (hm : 0 < m) : S m a b m = S m a 0 m + gc a m * (b / gc a m) := by
  have hg := gc_pos a m (show (0 : Int) < m by omega)
  have h1 := F_upI m a (b % gc a m) hm (b / gc a m)
  rw [Int.emod_add_mul_ediv, F_small m a _ hm (Int.emod_nonneg _ (by omega)) (Int.emod_lt_of_pos _ hg)] at h1
  exact h1
end Flo
namespace Flo
theorem S_above (n : Nat) (a b m t : Int) (hm : 0 < m) : S n (a + t * m) b m = S n a b m + t * ((n : Int) * ((n : Int) - 1) / 2) := by
  unfold S
  have e : ∀ i : Nat, ((a + t * m) * (i : Int) + b) / m = (a * (i : Int) + b) / m + t * (i : Int) := fun i => by
    rw [show (a + t * m) * (i : Int) + b = (a * (i : Int) + b) + (t * (i : Int)) * m by grind, Int.add_mul_ediv_right _ _ (by omega)]
  rw [sm_congr (fun i _ => e i), sm_add, sm_mul, sm_id]
theorem S_more (n : Nat) (a b m t : Int) (hm : 0 < m) : S n a (b + t * m) m = S n a b m + t * n := by
  unfold S
  have e : ∀ i : Nat, (a * (i : Int) + (b + t * m)) / m = (a * (i : Int) + b) / m + t := fun i => by
    rw [show a * (i : Int) + (b + t * m) = (a * (i : Int) + b) + t * m by grind, Int.add_mul_ediv_right _ _ (by omega)]
  rw [sm_congr (fun i _ => e i), sm_add, sm_const]
  grind
theorem S_turn (n : Nat) (a b m : Int) : S n (-a) (a * ((n : Int) - 1) + b) m = S n a b m := by
  unfold S
  rw [sm_rev n (fun i => (a * (i : Int) + b) / m)]
  refine sm_congr fun i hi => ?_
  have c : ((n - 1 - i : Nat) : Int) = (n : Int) - 1 - i := by omega
  rw [c]
  congr 1
  grind
/-- floor of minus x -/
theorem neg_div (x m : Int) (hm : 0 < m) : (-x) / m = -((x + m - 1) / m) := by
  have q1 := Int.mul_ediv_add_emod (-x) m
  have q2 := Int.mul_ediv_add_emod (x + m - 1) m
  have r1 := Int.emod_nonneg (-x) (show m ≠ 0 by omega)
  have r2 := Int.emod_lt_of_pos (-x) hm
  have r3 := Int.emod_nonneg (x + m - 1) (show m ≠ 0 by omega)
  have r4 := Int.emod_lt_of_pos (x + m - 1) hm
  generalize (-x) / m = u at *
  generalize (x + m - 1) / m = v at *
  have h1 : m * (u + v) < m * 1 := by rw [Int.mul_add]; omega
  have h2 : m * (-1) < m * (u + v) := by rw [Int.mul_add]; omega
  have h3 := Int.lt_of_mul_lt_mul_left h1 (by omega)
  have h4 := Int.lt_of_mul_lt_mul_left h2 (by omega)
  omega
theorem S_neg (n : Nat) (a b m : Int) (hm : 0 < m) : S n (-a) (-b) m = - S n a (b + m - 1) m := by
  unfold S
  rw [← sm_neg]
  refine sm_congr fun i _ => ?_
  rw [show -a * (i : Int) + -b = -(a * (i : Int) + b) by grind, neg_div _ _ hm]
  congr 2
  grind
theorem S_scale (n : Nat) (a b m r k : Int) (hm : 0 < m) (hk : 0 < k) (hr : 0 ≤ r) (hrk : r < k) : S n (k * a) (k * b + r) (k * m) = S n a b m := by
  unfold S
  refine sm_congr fun i _ => ?_
  rw [show k * a * (i : Int) + (k * b + r) = k * (a * (i : Int) + b) + r by grind, div_small _ k _ _ hk (Int.mul_pos hk hm) (Int.dvd_mul_right _ _) (Int.dvd_mul_right _ _) hr hrk, Int.mul_ediv_mul_of_pos _ _ hk]
theorem S_one (n : Nat) (a b : Int) : S n a b 1 = a * ((n : Int) * ((n : Int) - 1) / 2) + b * n := by
  unfold S
  have e : ∀ i : Nat, (a * (i : Int) + b) / 1 = a * (i : Int) + b := fun i => by rw [Int.ediv_one]
  rw [sm_congr (fun i _ => e i), sm_add, sm_mul, sm_id, sm_const]
  grind
theorem S_split (k l : Nat) (a b m : Int) : S (k + l) a b m = S k a b m + S l a (b + a * k) m := by
  unfold S
  rw [sm_app]
  congr 1
  refine sm_congr fun i _ => ?_
  congr 1
  push_cast
  grind
theorem S_last (n : Nat) (a b m : Int) : S (n + 1) a b m = S n a b m + (a * n + b) / m := rfl
/-- a whole row -/
theorem S_whole2 (p : Nat) (q : Int) (hp : 0 < p) : 2 * S p q 0 p = ((p : Int) - 1) * (q - 1) + gc q p - 1 := by
  have hpp : (0 : Int) < p := by omega
  have h1 := S_turn p q 0 p
  rw [Int.add_zero] at h1
  have h2 := S_more p (-q) (-q) p q hpp
  rw [show -q + q * (p : Int) = q * ((p : Int) - 1) by grind] at h2
  have h3 := S_neg p q q p hpp
  have h4 := F_full p q (q + p - 1) hp
  have hg := gc_pos q p hpp
  have h5 : (q + (p : Int) - 1) / gc q p * gc q p = q + p - gc q p := by
    obtain ⟨x, hx⟩ := Int.dvd_add (gc_dvd_left q p) (gc_dvd_right q p)
    have : (q + (p : Int) - 1) / gc q p = x - 1 := by
      rw [hx, show gc q p * x - 1 = (gc q p - 1) + (x - 1) * gc q p by grind, Int.add_mul_ediv_right _ _ (by omega), Int.ediv_eq_zero_of_lt (by omega) (by omega)]
      omega
    rw [this, hx]
    grind
  grind
/-- the two halves of odd ones (Eisenstein), where p is no less than q -/
theorem eis_ge (p q : Nat) (hpq : q ≤ p) : S (p + 1) (2 * q + 1) 0 (2 * p + 1) + S (q + 1) (2 * p + 1) 0 (2 * q + 1) = (p : Int) * q + gc (2 * p + 1) (2 * q + 1) / 2 := by
  have hP : (0 : Int) < 2 * p + 1 := by omega
  have hQ : (0 : Int) < 2 * q + 1 := by omega
  -- from above
  have h1 := S_top (p + 1) (2 * q + 1) 0 (2 * p + 1) hQ hP (by omega) (by omega) q (by push_cast; grind) (by push_cast; grind)
  -- the rest by ceilings: its members against floors
  have h2 : S q (2 * p + 1) (2 * p + 1 - 0 + (2 * q + 1) - 1) (2 * q + 1) = - S q (-(2 * p + 1)) (-(2 * p + 1)) (2 * q + 1) := by
    rw [S_neg q (2 * p + 1) (2 * p + 1) (2 * q + 1) hQ]
    rw [Int.neg_neg]
    congr 1
  -- one whole row of 2 q + 1 members
  have h3 := S_whole2 (2 * q + 1) (2 * p + 1) (by omega)
  have h4 := S_split (q + 1) q (2 * p + 1) 0 (2 * q + 1)
  have h5 : S q (2 * (p : Int) + 1) (0 + (2 * p + 1) * ((q + 1 : Nat) : Int)) (2 * q + 1) = S q (-(2 * p + 1)) (-(2 * p + 1)) (2 * q + 1) + (2 * p + 1) * q := by
    have a1 := S_turn q (-(2 * (p : Int) + 1)) (-(2 * p + 1) + (2 * p + 1) * (2 * q + 1)) (2 * q + 1)
    rw [Int.neg_neg] at a1
    have a2 := S_more q (-(2 * (p : Int) + 1)) (-(2 * p + 1)) (2 * q + 1) (2 * p + 1) hQ
    rw [a2] at a1
    rw [← a1]
    congr 1
    push_cast
    grind
  have e1 : ((2 * q + 1 : Nat) : Int) = 2 * (q : Int) + 1 := by push_cast; rfl
  rw [e1] at h3
  rw [show q + 1 + q = 2 * q + 1 by omega] at h4
  have hodd : gc (2 * (p : Int) + 1) (2 * q + 1) % 2 = 1 := by
    obtain ⟨x, hx⟩ := gc_dvd_left (2 * (p : Int) + 1) (2 * q + 1)
    rcases Int.emod_two_eq (gc (2 * (p : Int) + 1) (2 * q + 1)) with z | z
    · exfalso
      have e := Int.mul_ediv_add_emod (gc (2 * (p : Int) + 1) (2 * q + 1)) 2
      rw [z] at e
      generalize gc (2 * (p : Int) + 1) (2 * q + 1) = g at *
      have : 2 * (g / 2 * x) = 2 * (p : Int) + 1 := by grind
      omega
    · exact z
  have e2 := Int.mul_ediv_add_emod (gc (2 * (p : Int) + 1) (2 * q + 1)) 2
  push_cast at h1 ⊢
  grind
theorem eis (p q : Nat) : S (p + 1) (2 * q + 1) 0 (2 * p + 1) + S (q + 1) (2 * p + 1) 0 (2 * q + 1) = (p : Int) * q + gc (2 * p + 1) (2 * q + 1) / 2 := by
  rcases Nat.le_total q p with h | h
  · exact eis_ge p q h
  · have := eis_ge q p h
    rw [gc_comm (2 * (p : Int) + 1)]
    rw [Int.add_comm, this, Int.mul_comm]
end Flo
namespace Abs
open Flo
abbrev BB : Int := 10 ^ 200
theorem log2_lt' (n k : Nat) (h : n < 2 ^ k) (hk : 0 < k) : n.log2 < k := by
  by_cases z : n = 0
  · subst z; simpa using hk
  · exact (Nat.log2_lt z).mpr h
theorem bb_log {i : Int} (h1 : -BB ≤ i) (h2 : i ≤ BB) : i.natAbs.log2 < 700 := by
  refine log2_lt' _ _ (Nat.lt_of_le_of_lt (show i.natAbs ≤ 10 ^ 200 by unfold BB at *; omega) (by decide +kernel)) (by decide)
theorem mulO_ok {i j : Int} (h1 : -BB ≤ i) (h2 : i ≤ BB) (h3 : -BB ≤ j) (h4 : j ≤ BB) : mulO i j = some (i * j) := by
  unfold mulO
  have := bb_log h1 h2
  have := bb_log h3 h4
  rw [if_pos (by omega)]
theorem divO_ok {i j : Int} (h1 : 0 < j) (h2 : j ≤ BB) : divO i j = some (i / j) := by
  unfold divO
  have := bb_log (i := j) (by unfold BB; omega) h2
  rw [if_pos ⟨h1, by omega⟩]
theorem modO_ok {i j : Int} (h1 : 0 < j) : modO i j = some (i % j) := by
  unfold modO
  rw [if_pos h1]
theorem within_ok {i lo hi : Int} : m_is_within (.int i) lo hi = some (decide (lo ≤ i) && decide (i ≤ hi)) := by
  unfold m_is_within
  simp [isi, intD]
theorem integer_ok {i : Int} (h1 : -(10 ^ 60 - 1) ≤ i) (h2 : i ≤ 10 ^ 60 - 1) : m_is_integer (.int i) = some true := by
  unfold m_is_integer
  rw [within_ok, Option.bind_some]
  simp
  omega
theorem many_ok {i hi : Int} (h1 : 1 ≤ i) (h2 : i ≤ hi) : m_require_many (.int i) hi = some () := by
  unfold m_require_many
  rw [within_ok, Option.bind_some]
  simp
  omega
theorem integers_ok {i j : Int} (h1 : -(10 ^ 60 - 1) ≤ i) (h2 : i ≤ 10 ^ 60 - 1) (h3 : -(10 ^ 60 - 1) ≤ j) (h4 : j ≤ 10 ^ 60 - 1) : m_require_integer [.int i, .int j] = some () := by
  unfold m_require_integer forS forS forS
  simp [integer_ok h1 h2, integer_ok h3 h4]
/-! ### Euclid -/
theorem half (b r : Nat) (h0 : 0 < r) (h : r ≤ b) : 2 * (b % r) ≤ b := by
  have e := Nat.div_add_mod b r
  have h1 := Nat.mod_lt b h0
  have h2 : 1 ≤ b / r := (Nat.one_le_div_iff h0).mpr h
  have h3 : r * 1 ≤ r * (b / r) := Nat.mul_le_mul_left r h2
  omega
theorem half_mul (b r n : Nat) (h0 : 0 < r) (h : r ≤ b) (hn : r * b < 2 ^ (n + 1)) : b % r * r < 2 ^ n := by
  have h1 := half b r h0 h
  have h2 : 2 * (b % r) * r ≤ b * r := Nat.mul_le_mul_right r h1
  have h3 : b * r = r * b := Nat.mul_comm _ _
  have h4 : 2 * (b % r) * r = 2 * (b % r * r) := Nat.mul_assoc _ _ _
  have h5 : 2 ^ (n + 1) = 2 * 2 ^ n := by rw [Nat.pow_succ, Nat.mul_comm]
  omega
def gBody : Int × Int → Option (Int × Int) := fun s1 => (modO s1.1 s1.2).bind fun t5 => some (s1.2, t5)
theorem euc (c : Int × Int → Option Bool) (hc : ∀ x y : Int, 0 ≤ y → c (x, y) = some (decide (0 < y))) : ∀ (n a b : Nat), a % b * b < 2 ^ n → ∀ f, n + 2 ≤ f → whileS c gBody f ((a : Int), (b : Int)) = some (((Nat.gcd a b : Nat) : Int), 0)
  | n, a, 0, _, f + 1, _ => by
    unfold whileS
    rw [hc _ _ (by omega)]
    simp
  | n, a, b + 1, h, f + 1, hf => by
    unfold whileS
    rw [hc _ _ (by omega), Option.bind_some, if_pos (by simp)]
    unfold gBody
    rw [modO_ok (show (0 : Int) < ((a : Int), ((b + 1 : Nat) : Int)).2 by show (0 : Int) < ((b + 1 : Nat) : Int); omega), Option.bind_some, Option.bind_some]
    show whileS c gBody f (((b + 1 : Nat) : Int), (a : Int) % ((b + 1 : Nat) : Int)) = _
    rw [show (a : Int) % ((b + 1 : Nat) : Int) = ((a % (b + 1) : Nat) : Int) by simp]
    have hg : Nat.gcd a (b + 1) = Nat.gcd (b + 1) (a % (b + 1)) := by rw [Nat.gcd_comm, Nat.gcd_rec, Nat.gcd_comm]
    rw [hg]
    by_cases z : a % (b + 1) = 0
    · rw [z]
      obtain ⟨f', rfl⟩ : ∃ f', f = f' + 1 := ⟨f - 1, by omega⟩
      unfold whileS
      rw [hc _ _ (by omega)]
      simp
    · cases n with
      | zero =>
        exfalso
        have : 0 < a % (b + 1) * (b + 1) := Nat.mul_pos (by omega) (by omega)
        omega
      | succ n =>
        have hlt := Nat.mod_lt a (show 0 < b + 1 by omega)
        exact euc c hc n (b + 1) (a % (b + 1)) (half_mul (b + 1) (a % (b + 1)) n (by omega) (by omega) h) f (by omega)
theorem mod_mul_lt (a b : Nat) (k : Nat) (hb : b < 2 ^ k) : a % b * b < 2 ^ (2 * k) := by
  by_cases z : b = 0
  · subst z; rw [Nat.mul_zero]; exact Nat.pow_pos (by decide)
  · have h1 := Nat.mod_lt a (show 0 < b by omega)
    have h2 : a % b * b ≤ b * b := Nat.mul_le_mul_right b (by omega)
    have h3 : b * b < 2 ^ k * 2 ^ k := Nat.mul_lt_mul'' hb hb
    rw [show 2 * k = k + k by omega, Nat.pow_add]
    omega
theorem common_ok (a b : Int) (hb : -(10 ^ 120) ≤ b) (hb2 : b ≤ 10 ^ 120) : m_common a b = some (gc a b) := by
  unfold m_common
  have h := euc (fun s1 : Int × Int => some (decide (0 < s1.2))) (fun x y _ => rfl) (2 * 400) a.natAbs b.natAbs (mod_mul_lt _ _ 400 (Nat.lt_of_le_of_lt (show b.natAbs ≤ 10 ^ 120 by omega) (by decide +kernel))) FUEL (by decide)
  rw [show (whileS (fun s1 : Int × Int => some (decide (0 < s1.2))) (fun s1 : Int × Int => (modO s1.1 s1.2).bind fun t5 => some (s1.2, t5)) FUEL ((a.natAbs : Int), (b.natAbs : Int))) = _ from h]
  rfl
theorem lawcommon_ok (a b : Int) (hb : -(10 ^ 120) ≤ b) (hb2 : b ≤ 10 ^ 120) : m__law_common a b = some (gc a b) := by
  unfold m__law_common
  have h := euc (fun s1 : Int × Int => some (decide (s1.2 ≠ 0))) (fun x y hy => by congr 1; simp only [decide_eq_decide]; omega) (2 * 400) a.natAbs b.natAbs (mod_mul_lt _ _ 400 (Nat.lt_of_le_of_lt (show b.natAbs ≤ 10 ^ 120 by omega) (by decide +kernel))) FUEL (by decide)
  rw [show (whileS (fun s1 : Int × Int => some (decide (s1.2 ≠ 0))) (fun s1 : Int × Int => (modO s1.1 s1.2).bind fun t5 => some (s1.2, t5)) FUEL ((a.natAbs : Int), (b.natAbs : Int))) = _ from h]
  rfl
end Abs
namespace Abs
open Flo
def fCond : Int × Int × Int × Int × Int → Option Bool := fun s1 => some (decide (0 < s1.2.2.2.1))
def fBody : Int × Int × Int × Int × Int → Option (Lo (Int × Int × Int × Int × Int) Unit) := fun s1 => ((mulO s1.2.2.2.1 (s1.2.2.2.1 - 1)).bind fun t6 => (divO t6 2).bind fun t7 => (divO s1.2.1 s1.2.2.2.2).bind fun t8 => (mulO t7 t8).bind fun t9 => (divO s1.2.2.1 s1.2.2.2.2).bind fun t10 => (mulO s1.2.2.2.1 t10).bind fun t11 => (modO s1.2.1 s1.2.2.2.2).bind fun t12 => (modO s1.2.2.1 s1.2.2.2.2).bind fun t13 => (mulO t12 s1.2.2.2.1).bind fun t14 => if (decide ((t14 + t13) < s1.2.2.2.2)) = true then (some (.brk ((s1.1 + (t9 + t11)), t12, t13, s1.2.2.2.1, s1.2.2.2.2))) else ((divO (t14 + t13) s1.2.2.2.2).bind fun t16 => (modO (t14 + t13) s1.2.2.2.2).bind fun t17 => some (.go ((s1.1 + (t9 + t11)), s1.2.2.2.2, t17, t16, t12))))
theorem div_bd (a m : Int) (hm : 0 < m) (h1 : -(10 ^ 61) ≤ a) (h2 : a ≤ 10 ^ 61) : -(10 ^ 61) ≤ a / m ∧ a / m ≤ 10 ^ 61 := by
  constructor
  · exact (Int.le_ediv_iff_mul_le hm).mpr (by omega)
  · exact Int.ediv_le_of_le_mul hm (by omega)
theorem mul_bd (x y B C : Int) (hx : -B ≤ x) (hx2 : x ≤ B) (hy : -C ≤ y) (hy2 : y ≤ C) (hB : 0 ≤ B) (hC : 0 ≤ C) : -(B * C) ≤ x * y ∧ x * y ≤ B * C := by
  have h1 : x.natAbs ≤ B.natAbs := by omega
  have h2 : y.natAbs ≤ C.natAbs := by omega
  have h3 := Nat.mul_le_mul h1 h2
  rw [← Int.natAbs_mul, ← Int.natAbs_mul] at h3
  have h4 : 0 ≤ B * C := Int.mul_nonneg hB hC
  omega
/-- one turn -/
theorem fBody_ok (found a b N m : Int) (hm : 0 < m) (hm2 : m ≤ 10 ^ 61) (ha : -(10 ^ 61) ≤ a) (ha2 : a ≤ 10 ^ 61) (hb : -(10 ^ 61) ≤ b) (hb2 : b ≤ 10 ^ 61) (hN : 0 ≤ N) (hN2 : N ≤ 10 ^ 10) :
    fBody (found, a, b, N, m) = some (if a % m * N + b % m < m then .brk (found + (N * (N - 1) / 2 * (a / m) + N * (b / m)), a % m, b % m, N, m) else .go (found + (N * (N - 1) / 2 * (a / m) + N * (b / m)), m, (a % m * N + b % m) % m, (a % m * N + b % m) / m, a % m)) := by
  unfold fBody
  have p1 := mul_bd N (N - 1) (10 ^ 10) (10 ^ 10) (by omega) (by omega) (by omega) (by omega) (by omega) (by omega)
  have p2 := div_bd a m hm ha ha2
  have p3 := div_bd b m hm hb hb2
  have p4 := Int.emod_nonneg a (show m ≠ 0 by omega)
  have p5 := Int.emod_lt_of_pos a hm
  simp only []
  rw [mulO_ok (by unfold BB; omega) (by unfold BB; omega) (by unfold BB; omega) (by unfold BB; omega), Option.bind_some, divO_ok (by decide) (by decide +kernel), Option.bind_some, divO_ok hm (by unfold BB; omega), Option.bind_some,
    mulO_ok (by unfold BB; omega) (by unfold BB; omega) (by unfold BB; omega) (by unfold BB; omega), Option.bind_some, divO_ok hm (by unfold BB; omega), Option.bind_some, mulO_ok (by unfold BB; omega) (by unfold BB; omega) (by unfold BB; omega) (by unfold BB; omega), Option.bind_some,
    modO_ok hm, Option.bind_some, modO_ok hm, Option.bind_some, mulO_ok (by unfold BB; omega) (by unfold BB; omega) (by unfold BB; omega) (by unfold BB; omega), Option.bind_some]
  by_cases c : a % m * N + b % m < m
  · rw [if_pos (by simpa using c), if_pos c]
  · rw [if_neg (by simpa using c), if_neg c, divO_ok hm (by unfold BB; omega), Option.bind_some, modO_ok hm, Option.bind_some]
theorem flo_ok : ∀ (k : Nat) (found a b : Int) (N : Nat) (m : Int), 0 < m → m ≤ 10 ^ 61 → -(10 ^ 61) ≤ a → a ≤ 10 ^ 61 → -(10 ^ 61) ≤ b → b ≤ 10 ^ 61 → (N : Int) ≤ 10 ^ 10 → (a % m).toNat * m.toNat < 2 ^ k → ∀ f, k + 1 ≤ f →
    ((whileL fCond fBody f (found, a, b, (N : Int), m)).bind loSt).map (fun s => s.1) = some (found + S N a b m)
  | k, found, a, b, N, m, hm, hm2, ha, ha2, hb, hb2, hN, hk, f + 1, hf => by
    unfold whileL
    unfold fCond
    rw [Option.bind_some]
    by_cases h0 : N = 0
    · subst h0
      rw [if_neg (by simp)]
      show some found = some (found + 0)
      rw [Int.add_zero]
    · rw [if_pos (by simp; omega), fBody_ok found a b N m hm hm2 ha ha2 hb hb2 (by omega) hN, Option.bind_some]
      have p4 := Int.emod_nonneg a (show m ≠ 0 by omega)
      have p5 := Int.emod_lt_of_pos a hm
      have p6 := Int.emod_nonneg b (show m ≠ 0 by omega)
      have p7 := Int.emod_lt_of_pos b hm
      have st := S_step N a b m hm
      have e0 : a % m * ((N : Int) - 1) = a % m * (N : Int) - a % m := by grind
      have h00 : 0 ≤ a % m * (N : Int) := Int.mul_nonneg p4 (by omega)
      by_cases c : a % m * (N : Int) + b % m < m
      · rw [if_pos c]
        rw [S_small N (a % m) (b % m) m p4 p6 (by omega)] at st
        show some (found + _) = _
        rw [st]
        congr 1
        omega
      · rw [if_neg c]
        have ha0 : 0 < a % m := by
          rcases Int.lt_or_le 0 (a % m) with q | q
          · exact q
          · have : a % m = 0 := by omega
            rw [this] at c
            omega
        have sw := S_swap N (a % m) (b % m) m ha0 hm p6 p7
        show ((whileL fCond fBody f (found + ((N : Int) * ((N : Int) - 1) / 2 * (a / m) + (N : Int) * (b / m)), m, (a % m * (N : Int) + b % m) % m, (a % m * (N : Int) + b % m) / m, a % m)).bind loSt).map (fun s => s.1) = _
        have q1 := Int.emod_nonneg (a % m * (N : Int) + b % m) (show m ≠ 0 by omega)
        have q2 := Int.emod_lt_of_pos (a % m * (N : Int) + b % m) hm
        have q3 : 0 ≤ (a % m * (N : Int) + b % m) / m := Int.ediv_nonneg (by omega) (by omega)
        have q4 : (a % m * (N : Int) + b % m) / m < N + 1 := Int.ediv_lt_of_lt_mul hm (by
          have : a % m * (N : Int) ≤ (m - 1) * (N : Int) := Int.mul_le_mul_of_nonneg_right (by omega) (by omega)
          grind)
        have q5 : ((((a % m * (N : Int) + b % m) / m).toNat : Nat) : Int) = (a % m * (N : Int) + b % m) / m := by omega
        rw [← q5]
        cases k with
        | zero =>
          exfalso
          have : 0 < (a % m).toNat * m.toNat := Nat.mul_pos (by omega) (by omega)
          omega
        | succ k =>
          rw [flo_ok k _ m ((a % m * (N : Int) + b % m) % m) ((a % m * (N : Int) + b % m) / m).toNat (a % m) ha0 (by omega) (by omega) (by omega) (by omega) (by omega) (by omega) ?_ f (by omega)]
          · rw [st, sw]
            congr 1
            omega
          · have hm' : (m.toNat : Int) = m := by omega
            have ha' : ((a % m).toNat : Int) = a % m := by omega
            have : (m % (a % m)).toNat = m.toNat % (a % m).toNat := by
              have : ((m.toNat % (a % m).toNat : Nat) : Int) = m % (a % m) := by
                rw [Int.natCast_emod, hm', ha']
              omega
            rw [this]
            exact half_mul m.toNat (a % m).toNat k (by omega) (by omega) hk
theorem floors_ok (N : Nat) (a b m : Int) (hm : 0 < m) (hm2 : m ≤ 10 ^ 61) (ha : -(10 ^ 61) ≤ a) (ha2 : a ≤ 10 ^ 61) (hb : -(10 ^ 61) ≤ b) (hb2 : b ≤ 10 ^ 61) (hN : (N : Int) ≤ 10 ^ 10) : m_floors_in N a b m = some (S N a b m) := by
  have p4 := Int.emod_nonneg a (show m ≠ 0 by omega)
  have p5 := Int.emod_lt_of_pos a hm
  have hk : (a % m).toNat * m.toNat < 2 ^ 500 := by
    have h1 : (a % m).toNat ≤ 10 ^ 61 := by omega
    have h2 : m.toNat ≤ 10 ^ 61 := by omega
    exact Nat.lt_of_le_of_lt (Nat.mul_le_mul h1 h2) (by decide +kernel)
  have h := flo_ok 500 0 a b N m hm hm2 ha ha2 hb hb2 hN hk FUEL (by decide)
  rw [Int.zero_add] at h
  rw [← h]
  unfold m_floors_in
  show (((whileL fCond fBody FUEL (0, a, b, (N : Int), m)).bind loSt).bind fun s2 => some s2.1) = _
  cases (whileL fCond fBody FUEL (0, a, b, (N : Int), m)).bind loSt <;> rfl
/-- floor_sum of what it takes -/
theorem fs_ok (n a b m : Int) (h1 : 1 ≤ n) (h2 : n ≤ 10 ^ 9) (h3 : -(10 ^ 60 - 1) ≤ a) (h4 : a ≤ 10 ^ 60 - 1) (h5 : -(10 ^ 60 - 1) ≤ b) (h6 : b ≤ 10 ^ 60 - 1) (h7 : 1 ≤ m) (h8 : m ≤ 10 ^ 60 - 1) : m_floor_sum n a b m = some (S n.toNat a b m) := by
  unfold m_floor_sum
  rw [many_ok h1 (by omega), Option.bind_some, integers_ok h3 h4 h5 h6, Option.bind_some, many_ok h7 (by omega), Option.bind_some]
  have h := floors_ok n.toNat a b m (by omega) (by omega) (by omega) (by omega) (by omega) (by omega) (by omega)
  rw [show ((n.toNat : Nat) : Int) = n by omega] at h
  rw [h]
  rfl
end Abs
namespace Abs
open Flo
def DiceOk (d : Dice) : Prop := 0 ≤ d.2 ∧ d.2 < 18446744073709551616
theorem roll_ok (d : Dice) (t : Int) (hd : DiceOk d) (ht : 0 < t) (ht2 : t ≤ BB) : ∃ p, m__law_roll d t = some p ∧ 0 ≤ p.1 ∧ p.1 < t ∧ DiceOk p.2 := by
  unfold m__law_roll
  by_cases c : 0 < d.1
  · rw [if_pos (by simpa using c), modO_ok ht, Option.bind_some, divO_ok ht ht2, Option.bind_some]
    exact ⟨_, rfl, Int.emod_nonneg _ (by omega), Int.emod_lt_of_pos _ ht, hd⟩
  · obtain ⟨h1, h2⟩ := hd
    rw [if_neg (by simpa using c), mulO_ok (by unfold BB; omega) (by unfold BB; omega) (by decide +kernel) (by decide +kernel), Option.bind_some, modO_ok (by decide), Option.bind_some, divO_ok (by decide) (by decide +kernel), Option.bind_some, modO_ok ht, Option.bind_some]
    exact ⟨_, rfl, Int.emod_nonneg _ (by omega), Int.emod_lt_of_pos _ ht, Int.emod_nonneg _ (by decide), Int.emod_lt_of_pos _ (by decide)⟩
theorem gstep (x : Int) (f B : Int) (d : Dice) (hd : DiceOk d) (h0 : 0 ≤ f) (h1 : f < B) (hB : B ≤ 10 ^ 60) : ∃ f' d', ((mulO f 1000000000).bind fun t6 => (m__law_roll d 1000000000).bind fun p7 => some ((t6 + p7.1), p7.2)) = some (f', d') ∧ 0 ≤ f' ∧ f' < B * 1000000000 ∧ DiceOk d' := by
  obtain ⟨p, e, q1, q2, q3⟩ := roll_ok d 1000000000 hd (by decide) (by decide +kernel)
  rw [mulO_ok (by unfold BB; omega) (by unfold BB; omega) (by decide +kernel) (by decide +kernel), Option.bind_some, e, Option.bind_some]
  exact ⟨_, _, rfl, by omega, by omega, q3⟩
theorem great_ok (d : Dice) (most : Int) (hd : DiceOk d) (h : 0 < most) : ∃ p, m__law_great d most = some p ∧ 0 ≤ p.1 ∧ p.1 < most ∧ DiceOk p.2 := by
  unfold m__law_great
  rw [show rgO 5 = some [0, 1, 2, 3, 4] by rfl, Option.bind_some]
  obtain ⟨f1, d1, e1, a1, b1, c1⟩ := gstep 0 0 1 d hd (by decide) (by decide) (by decide)
  obtain ⟨f2, d2, e2, a2, b2, c2⟩ := gstep 0 f1 _ d1 c1 a1 b1 (by decide +kernel)
  obtain ⟨f3, d3, e3, a3, b3, c3⟩ := gstep 0 f2 _ d2 c2 a2 b2 (by decide +kernel)
  obtain ⟨f4, d4, e4, a4, b4, c4⟩ := gstep 0 f3 _ d3 c3 a3 b3 (by decide +kernel)
  obtain ⟨f5, d5, e5, a5, b5, c5⟩ := gstep 0 f4 _ d4 c4 a4 b4 (by decide +kernel)
  have hfor : forS (fun (x3 : Int) (s2 : Int × Dice) => (mulO s2.1 1000000000).bind fun t6 => (m__law_roll s2.2 1000000000).bind fun p7 => some ((t6 + p7.1), p7.2)) [0, 1, 2, 3, 4] (0, d) = some (f5, d5) := by
    unfold forS
    rw [show ((mulO ((0 : Int), d).1 1000000000).bind fun t6 => (m__law_roll ((0 : Int), d).2 1000000000).bind fun p7 => some ((t6 + p7.1), p7.2)) = some (f1, d1) from e1, Option.bind_some]
    unfold forS
    rw [show ((mulO (f1, d1).1 1000000000).bind fun t6 => (m__law_roll (f1, d1).2 1000000000).bind fun p7 => some ((t6 + p7.1), p7.2)) = some (f2, d2) from e2, Option.bind_some]
    unfold forS
    rw [show ((mulO (f2, d2).1 1000000000).bind fun t6 => (m__law_roll (f2, d2).2 1000000000).bind fun p7 => some ((t6 + p7.1), p7.2)) = some (f3, d3) from e3, Option.bind_some]
    unfold forS
    rw [show ((mulO (f3, d3).1 1000000000).bind fun t6 => (m__law_roll (f3, d3).2 1000000000).bind fun p7 => some ((t6 + p7.1), p7.2)) = some (f4, d4) from e4, Option.bind_some]
    unfold forS
    rw [show ((mulO (f4, d4).1 1000000000).bind fun t6 => (m__law_roll (f4, d4).2 1000000000).bind fun p7 => some ((t6 + p7.1), p7.2)) = some (f5, d5) from e5, Option.bind_some]
    rfl
  rw [hfor, Option.bind_some, modO_ok h, Option.bind_some]
  exact ⟨_, rfl, Int.emod_nonneg _ (by omega), Int.emod_lt_of_pos _ h, c5⟩
theorem ixO_nat {α : Type} (l : List α) (i : Int) (h0 : 0 ≤ i) (h : i < l.length) : ∃ x, ixO l i = some x ∧ x ∈ l := by
  have hl : i.toNat < l.length := by omega
  refine ⟨l[i.toNat], ?_, List.getElem_mem hl⟩
  unfold ixO
  have := L2.atI_nat (xs := l) (j := i.toNat) (v := l[i.toNat]) (List.getElem?_eq_getElem hl)
  rw [show ((i.toNat : Nat) : Int) = i by omega] at this
  exact this
theorem one_of_ok {α : Type} (d : Dice) (l : List α) (hd : DiceOk d) (h : 0 < l.length) (h2 : l.length ≤ 1000) : ∃ p, m__law_one_of d l = some p ∧ p.1 ∈ l ∧ DiceOk p.2 := by
  unfold m__law_one_of
  obtain ⟨p, e, q1, q2, q3⟩ := roll_ok d (l.length : Int) hd (by omega) (by unfold BB; omega)
  obtain ⟨x, e2, hx⟩ := ixO_nat l p.1 q1 q2
  rw [e, Option.bind_some, e2, Option.bind_some]
  exact ⟨_, rfl, hx, q3⟩
theorem signed_ok (d : Dice) (most : Int) (hd : DiceOk d) (h : 0 < most) (h2 : most ≤ 10 ^ 60) : ∃ p, m__law_signed d most = some p ∧ -most < p.1 ∧ p.1 < most ∧ DiceOk p.2 := by
  unfold m__law_signed
  obtain ⟨p, e, q1, q2, q3⟩ := great_ok d most hd h
  obtain ⟨r, e2, hr, q4⟩ := one_of_ok p.2 ([1, 1, -1] : List Int) q3 (by decide) (by decide)
  have hr2 : r.1 = 1 ∨ r.1 = -1 := by
    simp at hr
    omega
  rw [e, Option.bind_some, e2, Option.bind_some, mulO_ok (by unfold BB; omega) (by unfold BB; omega) (by unfold BB; omega) (by unfold BB; omega), Option.bind_some]
  refine ⟨_, rfl, ?_, ?_, q4⟩ <;> (rcases hr2 with z | z <;> rw [z] <;> simp <;> omega)
end Abs
namespace Abs
open Flo PySem
theorem eqO_refl {d : D} (h : SeqAt.shaped d = true) : eqO d d = some true := by
  unfold eqO
  rw [if_pos ⟨h, h⟩]
  unfold SeqAt.shaped at h
  rw [Bool.and_eq_true] at h
  rw [SeqAt.eqv_refl d h.1]
theorem eqO_of {d e : D} (h : SeqAt.shaped d = true) (q : d = e) : eqO d e = some true := by
  subst q; exact eqO_refl h
theorem parts_ok (d : Dice) (hd : DiceOk d) : ∃ p, m__law_parts_right d = some p ∧ p.1 = true ∧ DiceOk p.2 := by
  unfold m__law_parts_right
  obtain ⟨p1, e1, i1, c1⟩ := one_of_ok d ([3, 40, 999999993] : List Int) hd (by decide) (by decide)
  have i1' : 0 < p1.1 ∧ p1.1 ≤ 999999993 := by simp at i1; omega
  obtain ⟨p2, e2, j1, j2, c2⟩ := great_ok p1.2 p1.1 c1 (by omega)
  obtain ⟨p3, e3, i3, c3⟩ := one_of_ok p2.2 ([2, 12, 997, 100000000000, 10000000000000000000000000000000000000000] : List Int) c2 (by decide) (by decide)
  have i3' : 0 < p3.1 ∧ p3.1 ≤ 10 ^ 40 := by simp at i3; omega
  obtain ⟨p4, e4, j3, j4, c4⟩ := great_ok p3.2 p3.1 c3 (by omega)
  rw [e1, Option.bind_some, e2, Option.bind_some, e3, Option.bind_some, e4, Option.bind_some]
  generalize hm : 1 + p4.1 = m
  generalize hn : 1 + p2.1 = n
  have m1 : 1 ≤ m := by omega
  have m2 : m ≤ 10 ^ 40 := by omega
  have n1 : 1 ≤ n := by omega
  have n2 : n ≤ 10 ^ 9 - 6 := by omega
  have nn : ((n.toNat : Nat) : Int) = n := by omega
  rw [mulO_ok (by decide +kernel) (by decide +kernel) (by unfold BB; omega) (by unfold BB; omega), Option.bind_some]
  obtain ⟨p6, e6, a1, a2, c6⟩ := signed_ok p4.2 (3 * m) c4 (by omega) (by omega)
  rw [e6, Option.bind_some, Option.bind_some]
  obtain ⟨p8, e8, i8, c8⟩ := one_of_ok p6.2 ([m, 3 * m, 100000000000000000000000000000000000000000] : List Int) c6 (by simp) (by simp)
  have i8' : 0 < p8.1 ∧ p8.1 ≤ 10 ^ 42 := by simp at i8; omega
  rw [e8, Option.bind_some]
  obtain ⟨p9, e9, b1, b2, c9⟩ := signed_ok p8.2 p8.1 c8 (by omega) (by omega)
  rw [e9, Option.bind_some]
  generalize ha : p6.1 = a at *
  generalize hb : p9.1 = b at *
  rw [fs_ok n a b m n1 (by omega) (by omega) (by omega) (by omega) (by omega) m1 (by omega), Option.bind_some]
  obtain ⟨p11, e11, t1, t2, c11⟩ := signed_ok p9.2 99 c9 (by omega) (by omega)
  rw [e11, Option.bind_some]
  generalize ht : p11.1 = t at *
  have tm := mul_bd t m 99 (10 ^ 40) (by omega) (by omega) (by omega) (by omega) (by omega) (by omega)
  rw [mulO_ok (i := t) (j := m) (by unfold BB; omega) (by unfold BB; omega) (by unfold BB; omega) (by unfold BB; omega), Option.bind_some]
  rw [fs_ok n (a + t * m) b m n1 (by omega) (by omega) (by omega) (by omega) (by omega) m1 (by omega), Option.bind_some, Option.bind_some]
  rw [fs_ok n a (b + t * m) m n1 (by omega) (by omega) (by omega) (by omega) (by omega) m1 (by omega), Option.bind_some]
  have nb := mul_bd n (n - 1) (10 ^ 9) (10 ^ 9) (by omega) (by omega) (by omega) (by omega) (by omega) (by omega)
  have an := mul_bd a (n - 1) (10 ^ 42) (10 ^ 9) (by omega) (by omega) (by omega) (by omega) (by omega) (by omega)
  rw [mulO_ok (i := n) (j := n - 1) (by unfold BB; omega) (by unfold BB; omega) (by unfold BB; omega) (by unfold BB; omega), Option.bind_some, divO_ok (i := n * (n - 1)) (by decide) (by decide +kernel), Option.bind_some,
    mulO_ok (i := t) (j := n * (n - 1) / 2) (by unfold BB; omega) (by unfold BB; omega) (by unfold BB; omega) (by unfold BB; omega), Option.bind_some,
    mulO_ok (i := t) (j := n) (by unfold BB; omega) (by unfold BB; omega) (by unfold BB; omega) (by unfold BB; omega), Option.bind_some,
    mulO_ok (i := a) (j := n - 1) (by unfold BB; omega) (by unfold BB; omega) (by unfold BB; omega) (by unfold BB; omega), Option.bind_some]
  rw [fs_ok n (0 - a) (a * (n - 1) + b) m n1 (by omega) (by omega) (by omega) (by omega) (by omega) m1 (by omega), Option.bind_some]
  rw [fs_ok n (0 - a) (0 - b) m n1 (by omega) (by omega) (by omega) (by omega) (by omega) m1 (by omega), Option.bind_some]
  rw [fs_ok n a (b + m - 1) m n1 (by omega) (by omega) (by omega) (by omega) (by omega) m1 (by omega), Option.bind_some]
  rw [mulO_ok (i := 7) (j := a) (by decide +kernel) (by decide +kernel) (by unfold BB; omega) (by unfold BB; omega), Option.bind_some, mulO_ok (i := 7) (j := b) (by decide +kernel) (by decide +kernel) (by unfold BB; omega) (by unfold BB; omega), Option.bind_some]
  obtain ⟨p26, e26, r1, r2, c26⟩ := roll_ok p11.2 7 c11 (by decide) (by decide +kernel)
  rw [e26, Option.bind_some, mulO_ok (i := 7) (j := m) (by decide +kernel) (by decide +kernel) (by unfold BB; omega) (by unfold BB; omega), Option.bind_some]
  rw [fs_ok n (7 * a) (7 * b + p26.1) (7 * m) n1 (by omega) (by omega) (by omega) (by omega) (by omega) (by omega) (by omega), Option.bind_some]
  rw [fs_ok n a b 1 n1 (by omega) (by omega) (by omega) (by omega) (by omega) (by omega) (by omega), Option.bind_some, Option.bind_some, divO_ok (i := n * (n - 1)) (by decide) (by decide +kernel), Option.bind_some]
  rw [mulO_ok (i := a) (j := n * (n - 1) / 2) (by unfold BB; omega) (by unfold BB; omega) (by unfold BB; omega) (by unfold BB; omega), Option.bind_some, mulO_ok (i := b) (j := n) (by unfold BB; omega) (by unfold BB; omega) (by unfold BB; omega) (by unfold BB; omega), Option.bind_some]
  have q1 := S_above n.toNat a b m t (by omega)
  have q2 := S_more n.toNat a b m t (by omega)
  have q3 := S_turn n.toNat a b m
  have q4 := S_neg n.toNat a b m (by omega)
  have q5 := S_scale n.toNat a b m p26.1 7 (by omega) (by omega) r1 r2
  have q6 := S_one n.toNat a b
  rw [nn] at q1 q2 q3 q6
  rw [Int.zero_sub, Int.zero_sub, q1, q2, q3, q4, q5, q6]
  rw [eqO_of (by rfl) (by rw [Int.zero_sub]), Option.bind_some]
  rw [if_neg (by decide)]
  obtain ⟨p36, e36, f1, f2, c36⟩ := great_ok p26.2 n c26 (by omega)
  rw [e36, Option.bind_some]
  -- in two parts
  have hsp : (if (decide (0 < p36.1)) = true then ((m_floor_sum p36.1 a b m).bind fun t37 => (mulO a p36.1).bind fun t38 => (m_floor_sum (n - p36.1) a (b + t38) m).bind fun t39 => some (decide ((t37 + t39) ≠ S n.toNat a b m))) else some false) = some false := by
    by_cases c : 0 < p36.1
    · rw [if_pos (by simpa using c)]
      have af := mul_bd a p36.1 (10 ^ 42) (10 ^ 9) (by omega) (by omega) (by omega) (by omega) (by omega) (by omega)
      rw [fs_ok p36.1 a b m (by omega) (by omega) (by omega) (by omega) (by omega) (by omega) m1 (by omega), Option.bind_some,
        mulO_ok (i := a) (j := p36.1) (by unfold BB; omega) (by unfold BB; omega) (by unfold BB; omega) (by unfold BB; omega), Option.bind_some,
        fs_ok (n - p36.1) a (b + a * p36.1) m (by omega) (by omega) (by omega) (by omega) (by omega) (by omega) m1 (by omega), Option.bind_some]
      have h := S_split p36.1.toNat (n - p36.1).toNat a b m
      rw [show p36.1.toNat + (n - p36.1).toNat = n.toNat by omega, show ((p36.1.toNat : Nat) : Int) = p36.1 by omega] at h
      rw [h]
      simp
    · rw [if_neg (by simpa using c)]
  rw [hsp, Option.bind_some, if_neg (by decide), modO_ok (by omega), Option.bind_some, modO_ok (by omega), Option.bind_some]
  have x1 := Int.emod_nonneg a (show m ≠ 0 by omega)
  have x2 := Int.emod_lt_of_pos a (show 0 < m by omega)
  have x3 := Int.emod_nonneg b (show m ≠ 0 by omega)
  have x4 := Int.emod_lt_of_pos b (show 0 < m by omega)
  generalize a % m = a' at *
  generalize b % m = b' at *
  have an' := mul_bd a' (n - 1) (10 ^ 42) (10 ^ 9) (by omega) (by omega) (by omega) (by omega) (by omega) (by omega)
  have an0 : 0 ≤ a' * (n - 1) := Int.mul_nonneg x1 (by omega)
  rw [mulO_ok (i := a') (j := n - 1) (by unfold BB; omega) (by unfold BB; omega) (by unfold BB; omega) (by unfold BB; omega), Option.bind_some, divO_ok (by omega) (by unfold BB; omega), Option.bind_some,
    fs_ok n a' b' m n1 (by omega) (by omega) (by omega) (by omega) (by omega) m1 (by omega), Option.bind_some]
  have y1 := Int.mul_ediv_add_emod (a' * (n - 1) + b') m
  have y2 := Int.emod_nonneg (a' * (n - 1) + b') (show m ≠ 0 by omega)
  have y3 := Int.emod_lt_of_pos (a' * (n - 1) + b') (show 0 < m by omega)
  have y4 : 0 ≤ (a' * (n - 1) + b') / m := Int.ediv_nonneg (by omega) (by omega)
  generalize hT : (a' * (n - 1) + b') / m = T at *
  by_cases c : a' = 0 ∨ T = 0
  · rw [if_pos (by simpa using c)]
    refine ⟨_, rfl, ?_, c36⟩
    have hz : S n.toNat a' b' m = 0 := S_small _ _ _ _ x1 x3 (by
      rw [nn]
      rcases c with z | z
      · rw [z]; omega
      · rw [z] at y1; omega)
    simp [hz]
  · rw [if_neg (by simpa using c)]
    have ha' : 0 < a' := by omega
    have hT0 : 0 < T := by omega
    by_cases c2 : 1000000000 < T
    · rw [if_pos (by simpa using c2), Option.bind_some]
      exact ⟨_, rfl, rfl, c36⟩
    · rw [if_neg (by simpa using c2)]
      rw [mulO_ok (i := n) (j := T) (by unfold BB; omega) (by unfold BB; omega) (by unfold BB; omega) (by unfold BB; omega), Option.bind_some, fs_ok T m (m - b' + a' - 1) a' (by omega) (by omega) (by omega) (by omega) (by omega) (by omega) (by omega) (by omega), Option.bind_some, Option.bind_some]
      refine ⟨_, rfl, ?_, c36⟩
      have tp := S_top n.toNat a' b' m ha' (by omega) x3 x4 T.toNat (by rw [nn, show ((T.toNat : Nat) : Int) = T by omega]; omega) (by rw [nn, show ((T.toNat : Nat) : Int) = T by omega, Int.mul_add]; omega)
      rw [nn, show ((T.toNat : Nat) : Int) = T by omega] at tp
      simp [tp]
theorem rests_ok (d : Dice) (hd : DiceOk d) : ∃ p, m__law_rests_right d = some p ∧ p.1 = true ∧ DiceOk p.2 := by
  unfold m__law_rests_right
  obtain ⟨p1, e1, i1, c1⟩ := one_of_ok d ([12, 997, 1000000000] : List Int) hd (by decide) (by decide)
  have i1' : 0 < p1.1 ∧ p1.1 ≤ 1000000000 := by simp at i1; omega
  obtain ⟨p2, e2, j1, j2, c2⟩ := great_ok p1.2 p1.1 c1 (by omega)
  obtain ⟨p3, e3, a1, a2, c3⟩ := signed_ok p2.2 1000000000000 c2 (by omega) (by omega)
  obtain ⟨p4, e4, b1, b2, c4⟩ := signed_ok p3.2 1000000000000 c3 (by omega) (by omega)
  obtain ⟨p5, e5, f1, f2, c5⟩ := great_ok p4.2 (1 + p2.1 + 1) c4 (by omega)
  rw [e1, Option.bind_some, e2, Option.bind_some, e3, Option.bind_some, e4, Option.bind_some, e5, Option.bind_some]
  generalize hm : 1 + p2.1 = m at *
  generalize ha : p3.1 = a at *
  generalize hb : p4.1 = b at *
  generalize hf : p5.1 = part at *
  have m1 : 1 ≤ m := by omega
  have g0 := gc_pos a m (by omega)
  have g1 := gc_le a m (by omega)
  rw [lawcommon_ok a m (by omega) (by omega), Option.bind_some, modO_ok g0, Option.bind_some, divO_ok g0 (by unfold BB; omega), Option.bind_some]
  have F1 := F_full m.toNat a b (by omega)
  have F2 := F_full m.toNat a (b - part) (by omega)
  rw [show ((m.toNat : Nat) : Int) = m by omega] at F1 F2
  generalize gc a m = g at *
  have r1 := Int.emod_nonneg b (show g ≠ 0 by omega)
  have r2 := Int.emod_lt_of_pos b g0
  have r3 := Int.mul_ediv_add_emod b g
  -- (part - f + g - 1) / g = b / g - (b - part) / g
  have key : (part - b % g + g - 1) / g = b / g - (b - part) / g := by
    have h := neg_div (b % g - part) g g0
    have h2 : (b - part) / g = b / g + (b % g - part) / g := by
      rw [show b - part = (b % g - part) + (b / g) * g by grind, Int.add_mul_ediv_right _ _ (by omega)]
      omega
    rw [show -(b % g - part) = part - b % g by omega] at h
    have h3 := neg_div (part - b % g) g g0
    rw [show -(part - b % g) = b % g - part by omega] at h3
    omega
  have kn : 0 ≤ (part - b % g + g - 1) / g := Int.ediv_nonneg (by omega) (by omega)
  have kb : (part - b % g + g - 1) / g ≤ 10 ^ 12 := by
    have := Int.ediv_le_self g (show 0 ≤ part - b % g + g - 1 by omega)
    omega
  rw [Int.max_eq_right kn, mulO_ok (by unfold BB; omega) (by unfold BB; omega) (by unfold BB; omega) (by unfold BB; omega), Option.bind_some,
    fs_ok m a b m m1 (by omega) (by omega) (by omega) (by omega) (by omega) m1 (by omega), Option.bind_some, fs_ok m a (b - part) m m1 (by omega) (by omega) (by omega) (by omega) (by omega) m1 (by omega), Option.bind_some]
  refine ⟨_, rfl, ?_, c5⟩
  rw [key, F1, F2]
  simp
  grind
end Abs
namespace Abs
open Flo PySem
abbrev P3 := Int × Int × Int
def B3 (u : P3) : Prop := (-(10 ^ 40) ≤ u.1 ∧ u.1 ≤ 10 ^ 40) ∧ (-(10 ^ 40) ≤ u.2.1 ∧ u.2.1 ≤ 10 ^ 40) ∧ (-(10 ^ 40) ≤ u.2.2 ∧ u.2.2 ≤ 10 ^ 40)
def cr (u v : P3) : P3 := (u.2.1 * v.2.2 - u.2.2 * v.2.1, u.2.2 * v.1 - u.1 * v.2.2, u.1 * v.2.1 - u.2.1 * v.1)
def dt (u v : P3) : Int := u.1 * v.1 + u.2.1 * v.2.1 + u.2.2 * v.2.2
def sg (x : Int) : Int := if 0 < x then 1 else if x < 0 then -1 else 0
theorem mulO_40 {i j : Int} (h1 : -(10 ^ 40) ≤ i ∧ i ≤ 10 ^ 40) (h2 : -(10 ^ 40) ≤ j ∧ j ≤ 10 ^ 40) : mulO i j = some (i * j) := mulO_ok (by unfold BB; omega) (by unfold BB; omega) (by unfold BB; omega) (by unfold BB; omega)
theorem crossed_ok {u v : P3} (hu : B3 u) (hv : B3 v) : m_crossed u v = some (cr u v) := by
  obtain ⟨u1, u2, u3⟩ := hu
  obtain ⟨v1, v2, v3⟩ := hv
  unfold m_crossed
  rw [mulO_40 u2 v3, Option.bind_some, mulO_40 u3 v2, Option.bind_some, mulO_40 u3 v1, Option.bind_some, mulO_40 u1 v3, Option.bind_some, mulO_40 u1 v2, Option.bind_some, mulO_40 u2 v1, Option.bind_some]
  rfl
theorem cr_bd {u v : P3} (hu : B3 u) (hv : B3 v) : (-(10 ^ 81) ≤ (cr u v).1 ∧ (cr u v).1 ≤ 10 ^ 81) ∧ (-(10 ^ 81) ≤ (cr u v).2.1 ∧ (cr u v).2.1 ≤ 10 ^ 81) ∧ (-(10 ^ 81) ≤ (cr u v).2.2 ∧ (cr u v).2.2 ≤ 10 ^ 81) := by
  obtain ⟨u1, u2, u3⟩ := hu
  obtain ⟨v1, v2, v3⟩ := hv
  have h1 := mul_bd _ _ (10 ^ 40) (10 ^ 40) u2.1 u2.2 v3.1 v3.2 (by decide) (by decide)
  have h2 := mul_bd _ _ (10 ^ 40) (10 ^ 40) u3.1 u3.2 v2.1 v2.2 (by decide) (by decide)
  have h3 := mul_bd _ _ (10 ^ 40) (10 ^ 40) u3.1 u3.2 v1.1 v1.2 (by decide) (by decide)
  have h4 := mul_bd _ _ (10 ^ 40) (10 ^ 40) u1.1 u1.2 v3.1 v3.2 (by decide) (by decide)
  have h5 := mul_bd _ _ (10 ^ 40) (10 ^ 40) u1.1 u1.2 v2.1 v2.2 (by decide) (by decide)
  have h6 := mul_bd _ _ (10 ^ 40) (10 ^ 40) u2.1 u2.2 v1.1 v1.2 (by decide) (by decide)
  unfold cr
  refine ⟨⟨?_, ?_⟩, ⟨?_, ?_⟩, ⟨?_, ?_⟩⟩ <;> (simp only []; omega)
theorem szO_ok {α : Type} {l : List α} (h : l.length ≤ 1000) : szO l = some l := by
  unfold szO
  rw [if_pos (Nat.le_trans h (by decide))]
theorem dotted_ok {w v : P3} (hw : (-(10 ^ 81) ≤ w.1 ∧ w.1 ≤ 10 ^ 81) ∧ (-(10 ^ 81) ≤ w.2.1 ∧ w.2.1 ≤ 10 ^ 81) ∧ (-(10 ^ 81) ≤ w.2.2 ∧ w.2.2 ≤ 10 ^ 81)) (hv : B3 v) : m_dotted w v = some (dt w v) := by
  obtain ⟨v1, v2, v3⟩ := hv
  obtain ⟨w1, w2, w3⟩ := hw
  unfold m_dotted
  rw [Option.bind_some, szO_ok (by simp), Option.bind_some]
  have e1 : mulO w.1 v.1 = some (w.1 * v.1) := mulO_ok (by unfold BB; omega) (by unfold BB; omega) (by unfold BB; omega) (by unfold BB; omega)
  have e2 : mulO w.2.1 v.2.1 = some (w.2.1 * v.2.1) := mulO_ok (by unfold BB; omega) (by unfold BB; omega) (by unfold BB; omega) (by unfold BB; omega)
  have e3 : mulO w.2.2 v.2.2 = some (w.2.2 * v.2.2) := mulO_ok (by unfold BB; omega) (by unfold BB; omega) (by unfold BB; omega) (by unfold BB; omega)
  simp [mapO, e1, e2, e3, dt]
  omega
theorem turn_ok {u v w : P3} (hu : B3 u) (hv : B3 v) (hw : B3 w) : m_turn_in u v w = some (sg (dt (cr u v) w)) := by
  unfold m_turn_in
  rw [crossed_ok hu hv, Option.bind_some, dotted_ok (cr_bd hu hv) hw, Option.bind_some]
  unfold m_sign_of sg
  simp
def od (u v : P3) : Int := if u.1 * v.2.2 - v.1 * u.2.2 ≠ 0 then u.1 * v.2.2 - v.1 * u.2.2 else u.2.1 * v.2.2 - v.2.1 * u.2.2
theorem order_ok {u v : P3} (hu : B3 u) (hv : B3 v) : m_order_in u v = some (sg (od u v)) := by
  obtain ⟨u1, u2, u3⟩ := hu
  obtain ⟨v1, v2, v3⟩ := hv
  unfold m_order_in od
  rw [mulO_40 u1 v3, Option.bind_some, mulO_40 v1 u3, Option.bind_some]
  by_cases c : u.1 * v.2.2 - v.1 * u.2.2 ≠ 0
  · rw [if_pos (by simpa using c), if_pos c, Option.bind_some]
    unfold m_sign_of sg
    simp
  · rw [if_neg (by simpa using c), if_neg c, mulO_40 u2 v3, Option.bind_some, mulO_40 v2 u3, Option.bind_some, Option.bind_some]
    unfold m_sign_of sg
    simp
theorem div_abs (x g : Int) (hg : 0 < g) (B : Int) (hB : 0 ≤ B) (h1 : -B ≤ x) (h2 : x ≤ B) : -B ≤ x / g ∧ x / g ≤ B := by
  have e1 : B * 1 ≤ B * g := Int.mul_le_mul_of_nonneg_left (by omega) hB
  constructor
  · refine (Int.le_ediv_iff_mul_le hg).mpr ?_
    rw [Int.neg_mul]
    omega
  · exact Int.ediv_le_of_le_mul hg (by omega)
/-- lowest: told no further than that it is there -/
theorem lowest_ok {v : P3} {B : Int} (hB : 0 ≤ B) (hB2 : B ≤ 10 ^ 100) (h1 : -B ≤ v.1 ∧ v.1 ≤ B) (h2 : -B ≤ v.2.1 ∧ v.2.1 ≤ B) (h3 : -B ≤ v.2.2 ∧ v.2.2 ≤ B) (hz : v.1 ≠ 0 ∨ v.2.1 ≠ 0 ∨ v.2.2 ≠ 0) : ∃ r, m_lowest v = some r ∧ (-B ≤ r.1 ∧ r.1 ≤ B) ∧ (-B ≤ r.2.1 ∧ r.2.1 ≤ B) ∧ (-B ≤ r.2.2 ∧ r.2.2 ≤ B) := by
  unfold m_lowest
  have c1 := common_ok 0 v.1 (by omega) (by omega)
  have c2 := common_ok (gc 0 v.1) v.2.1 (by omega) (by omega)
  have c3 := common_ok (gc (gc 0 v.1) v.2.1) v.2.2 (by omega) (by omega)
  have hg : 0 < gc (gc (gc 0 v.1) v.2.1) v.2.2 := by
    unfold gc
    have : 0 < Nat.gcd ((Nat.gcd ((Nat.gcd (0 : Int).natAbs v.1.natAbs : Nat) : Int).natAbs v.2.1.natAbs : Nat) : Int).natAbs v.2.2.natAbs := by
      apply Nat.pos_of_ne_zero
      intro z
      have z1 := Nat.gcd_eq_zero_iff.mp z
      have z2 : Nat.gcd ((Nat.gcd (0 : Int).natAbs v.1.natAbs : Nat) : Int).natAbs v.2.1.natAbs = 0 := by simpa using z1.1
      have z3 := Nat.gcd_eq_zero_iff.mp z2
      have z4 : Nat.gcd (0 : Int).natAbs v.1.natAbs = 0 := by simpa using z3.1
      have z5 := Nat.gcd_eq_zero_iff.mp z4
      omega
    omega
  have hgb : gc (gc (gc 0 v.1) v.2.1) v.2.2 ≤ BB := by
    have hh : ∀ a b : Int, b ≠ 0 → gc a b ≤ b.natAbs := fun a b hb => by
      unfold gc
      have := Nat.gcd_le_right (n := b.natAbs) a.natAbs (by omega)
      omega
    have h0 : ∀ a : Int, gc a 0 = a.natAbs := fun a => by unfold gc; simp
    have hn : ∀ a b : Int, 0 ≤ gc a b := gc_nonneg
    unfold BB
    by_cases w : v.2.2 = 0
    · rw [w, h0]
      by_cases y : v.2.1 = 0
      · rw [y, h0]
        have x : v.1 ≠ 0 := by omega
        have := hh 0 v.1 x
        have := hn 0 v.1
        omega
      · have := hh (gc 0 v.1) v.2.1 y
        have := hn (gc 0 v.1) v.2.1
        omega
    · have := hh (gc (gc 0 v.1) v.2.1) v.2.2 w
      omega
  rw [show forS (fun (x2 : Int) (s1 : Int) => (m_common s1 x2).bind fun t5 => some t5) [v.1, v.2.1, v.2.2] 0 = some (gc (gc (gc 0 v.1) v.2.1) v.2.2) by simp [forS, c1, c2, c3], Option.bind_some, szO_ok (by simp), Option.bind_some]
  generalize gc (gc (gc 0 v.1) v.2.1) v.2.2 = g at *
  have d : ∀ x : Int, divO x g = some (x / g) := fun x => divO_ok hg hgb
  rw [show mapO (fun (x7 : Int) => (divO x7 g).bind fun t10 => some t10) [v.1, v.2.1, v.2.2] = some [v.1 / g, v.2.1 / g, v.2.2 / g] by simp [mapO, d], Option.bind_some]
  refine ⟨(v.1 / g, v.2.1 / g, v.2.2 / g), rfl, ?_, ?_, ?_⟩
  · exact div_abs _ _ hg B hB h1.1 h1.2
  · exact div_abs _ _ hg B hB h2.1 h2.2
  · exact div_abs _ _ hg B hB h3.1 h3.2
end Abs
namespace Abs
open Flo PySem
def Bs (u : P3) : Prop := (-(10 ^ 10) ≤ u.1 ∧ u.1 ≤ 10 ^ 10) ∧ (-(10 ^ 10) ≤ u.2.1 ∧ u.2.1 ≤ 10 ^ 10) ∧ (-(10 ^ 10) ≤ u.2.2 ∧ u.2.2 ≤ 10 ^ 10)
theorem Bs.b3 {u : P3} (h : Bs u) : B3 u := by unfold Bs at h; unfold B3; omega
def NZ (u : P3) : Prop := u.1 ≠ 0 ∨ u.2.1 ≠ 0 ∨ u.2.2 ≠ 0
theorem line_of_ok {a b c : Int} {B : Int} (hB : 0 ≤ B) (hB2 : B ≤ 10 ^ 100) (h1 : -B ≤ a ∧ a ≤ B) (h2 : -B ≤ b ∧ b ≤ B) (h3 : -B ≤ c ∧ c ≤ B) (hz : NZ (a, b, c)) : ∃ r, m_line_of a b c = some r ∧ (-B ≤ r.1 ∧ r.1 ≤ B) ∧ (-B ≤ r.2.1 ∧ r.2.1 ≤ B) ∧ (-B ≤ r.2.2 ∧ r.2.2 ≤ B) := by
  unfold m_line_of
  obtain ⟨r1, e1, q1⟩ := lowest_ok (v := (a, b, c)) hB hB2 h1 h2 h3 hz
  obtain ⟨r2, e2, q2⟩ := lowest_ok (v := (-a, -b, -c)) hB hB2 (by simp only []; omega) (by simp only []; omega) (by simp only []; omega) (by unfold NZ at hz; simp only [] at hz ⊢; omega)
  rw [e1, e2]
  generalize decide (0 < (if (decide (a ≠ 0)) = true then a else b)) = t
  cases t
  · exact ⟨r2, rfl, q2⟩
  · exact ⟨r1, rfl, q1⟩
theorem line_in_ok {u v : P3} (hu : Bs u) (hv : Bs v) (hz : NZ (cr u v)) : ∃ r, m_line_in u v = some r ∧ B3 r := by
  unfold m_line_in
  rw [crossed_ok hu.b3 hv.b3, Option.bind_some]
  obtain ⟨u1, u2, u3⟩ := hu
  obtain ⟨v1, v2, v3⟩ := hv
  have h1 := mul_bd _ _ (10 ^ 10) (10 ^ 10) u2.1 u2.2 v3.1 v3.2 (by decide) (by decide)
  have h2 := mul_bd _ _ (10 ^ 10) (10 ^ 10) u3.1 u3.2 v2.1 v2.2 (by decide) (by decide)
  have h3 := mul_bd _ _ (10 ^ 10) (10 ^ 10) u3.1 u3.2 v1.1 v1.2 (by decide) (by decide)
  have h4 := mul_bd _ _ (10 ^ 10) (10 ^ 10) u1.1 u1.2 v3.1 v3.2 (by decide) (by decide)
  have h5 := mul_bd _ _ (10 ^ 10) (10 ^ 10) u1.1 u1.2 v2.1 v2.2 (by decide) (by decide)
  have h6 := mul_bd _ _ (10 ^ 10) (10 ^ 10) u2.1 u2.2 v1.1 v1.2 (by decide) (by decide)
  obtain ⟨r, e, q⟩ := line_of_ok (a := (cr u v).1) (b := (cr u v).2.1) (c := (cr u v).2.2) (B := 10 ^ 40) (by decide) (by decide +kernel) (by unfold cr; simp only []; omega) (by unfold cr; simp only []; omega) (by unfold cr; simp only []; omega) hz
  rw [e]
  exact ⟨r, rfl, q⟩
theorem meet_in_ok {u v : P3} (hu : B3 u) (hv : B3 v) : ∃ r, m_meet_in u v = some r := by
  unfold m_meet_in
  rw [crossed_ok hu hv, Option.bind_some]
  have b := cr_bd hu hv
  generalize cr u v = w at *
  by_cases c : w.2.2 ≠ 0
  · rw [if_pos (by simpa using c)]
    unfold m_point_of
    obtain ⟨r1, e1, _⟩ := lowest_ok (v := (w.1, w.2.1, w.2.2)) (B := 10 ^ 81) (by decide) (by decide +kernel) b.1 b.2.1 b.2.2 (.inr (.inr c))
    obtain ⟨r2, e2, _⟩ := lowest_ok (v := (-w.1, -w.2.1, -w.2.2)) (B := 10 ^ 81) (by decide) (by decide +kernel) (by simp only []; omega) (by simp only []; omega) (by simp only []; omega) (.inr (.inr (by simp only []; omega)))
    rw [e1, e2]
    split
    · exact ⟨_, rfl⟩
    · exact ⟨_, rfl⟩
  · rw [if_neg (by simpa using c)]
    exact ⟨_, rfl⟩
theorem sg_cases (x : Int) : sg x = 1 ∨ sg x = -1 ∨ sg x = 0 := by
  unfold sg
  split
  · exact .inl rfl
  · split
    · exact .inr (.inl rfl)
    · exact .inr (.inr rfl)
theorem sg_bd (x : Int) : -(10 ^ 40) ≤ sg x ∧ sg x ≤ 10 ^ 40 := by
  rcases sg_cases x with h | h | h <;> rw [h] <;> decide
/-- two pieces that meet in one point alone -/
theorem cross_one {a b c d : P3} (ha : Bs a) (hb : Bs b) (hc : Bs c) (hd : Bs d) (n1 : ¬ (sg (dt (cr a b) c) = 0 ∧ sg (dt (cr a b) d) = 0)) (n2 : ¬ 0 < sg (dt (cr a b) c) * sg (dt (cr a b) d)) (n3 : ¬ 0 < sg (dt (cr c d) a) * sg (dt (cr c d) b))
    (z1 : NZ (cr a b)) (z2 : NZ (cr c d)) : ∃ x, m_cross_in (a, b) (c, d) = some (.tuple [x]) := by
  unfold m_cross_in
  simp only []
  rw [turn_ok ha.b3 hb.b3 hc.b3, Option.bind_some, turn_ok ha.b3 hb.b3 hd.b3, Option.bind_some]
  rw [if_neg (by simpa using n1), mulO_40 (sg_bd _) (sg_bd _), Option.bind_some, if_neg (by simpa using n2), turn_ok hc.b3 hd.b3 ha.b3, Option.bind_some, turn_ok hc.b3 hd.b3 hb.b3, Option.bind_some, mulO_40 (sg_bd _) (sg_bd _), Option.bind_some, Option.bind_some, if_neg (by simpa using n3)]
  obtain ⟨r1, e1, q1⟩ := line_in_ok ha hb z1
  obtain ⟨r2, e2, q2⟩ := line_in_ok hc hd z2
  obtain ⟨x, e3⟩ := meet_in_ok q1 q2
  rw [e1, Option.bind_some, e2, Option.bind_some, e3, Option.bind_some]
  exact ⟨x, rfl⟩
/-- the triangle -/
abbrev tri (p q : Int) : List P3 := [(0, 0, 1), (p, 0, 1), (p, q, 1)]
section
variable {p q : Int} (hp : 1 ≤ p) (hp2 : p ≤ 10 ^ 9) (hq : 1 ≤ q) (hq2 : q ≤ 10 ^ 9)
include hp hp2 hq hq2
theorem tA : Bs (0, 0, 1) := by unfold Bs; decide
theorem tB : Bs (p, 0, 1) := by unfold Bs; simp only []; omega
theorem tC : Bs (p, q, 1) := by unfold Bs; simp only []; omega
theorem pq_pos : 0 < p * q := Int.mul_pos (by omega) (by omega)
theorem pq_bd : p * q ≤ 10 ^ 18 := (mul_bd p q (10 ^ 9) (10 ^ 9) (by omega) (by omega) (by omega) (by omega) (by decide) (by decide)).2
theorem ix0 (l : List P3) : True := trivial
theorem straight_ok : m_straight_in (tri p q) = some [] := by
  have hpq := pq_pos hp hp2 hq hq2
  have A := tA hp hp2 hq hq2
  have B := tB hp hp2 hq hq2
  have C := tC hp hp2 hq hq2
  unfold m_straight_in
  rw [show ((tri p q).length : Int) = 3 from rfl, show rgO 3 = some [0, 1, 2] by rfl, Option.bind_some, szO_ok (by simp), Option.bind_some]
  have k0 : m_bent_in (tri p q) 0 = some 1 := by
    unfold m_bent_in m_behind
    rw [show ixO (tri p q) (0 - 1) = some (p, q, 1) by rfl, Option.bind_some, show ixO (tri p q) 0 = some (0, 0, 1) by rfl, Option.bind_some, show ((tri p q).length : Int) = 3 from rfl, show modO (0 + 1) 3 = some 1 by decide, Option.bind_some, show ixO (tri p q) 1 = some (p, 0, 1) by rfl, Option.bind_some, Option.bind_some, turn_ok C.b3 A.b3 B.b3, Option.bind_some]
    have : dt (cr (p, q, 1) (0, 0, 1)) (p, 0, 1) = p * q := by unfold dt cr; simp only []; grind
    rw [this]; unfold sg; rw [if_pos hpq]
  have k1 : m_bent_in (tri p q) 1 = some 1 := by
    unfold m_bent_in m_behind
    rw [show ixO (tri p q) (1 - 1) = some (0, 0, 1) by rfl, Option.bind_some, show ixO (tri p q) 1 = some (p, 0, 1) by rfl, Option.bind_some, show ((tri p q).length : Int) = 3 from rfl, show modO (1 + 1) 3 = some 2 by decide, Option.bind_some, show ixO (tri p q) 2 = some (p, q, 1) by rfl, Option.bind_some, Option.bind_some, turn_ok A.b3 B.b3 C.b3, Option.bind_some]
    have : dt (cr (0, 0, 1) (p, 0, 1)) (p, q, 1) = p * q := by unfold dt cr; simp only []; grind
    rw [this]; unfold sg; rw [if_pos hpq]
  have k2 : m_bent_in (tri p q) 2 = some 1 := by
    unfold m_bent_in m_behind
    rw [show ixO (tri p q) (2 - 1) = some (p, 0, 1) by rfl, Option.bind_some, show ixO (tri p q) 2 = some (p, q, 1) by rfl, Option.bind_some, show ((tri p q).length : Int) = 3 from rfl, show modO (2 + 1) 3 = some 0 by decide, Option.bind_some, show ixO (tri p q) 0 = some (0, 0, 1) by rfl, Option.bind_some, Option.bind_some, turn_ok B.b3 C.b3 A.b3, Option.bind_some]
    have : dt (cr (p, 0, 1) (p, q, 1)) (0, 0, 1) = p * q := by unfold dt cr; simp only []; grind
    rw [this]; unfold sg; rw [if_pos hpq]
  simp [fmO, k0, k1, k2]
theorem edges_ok : m_edges_in (tri p q) = some [((0, 0, 1), (p, 0, 1)), ((p, 0, 1), (p, q, 1)), ((0, 0, 1), (p, q, 1))] := by
  have A := tA hp hp2 hq hq2
  have B := tB hp hp2 hq hq2
  have C := tC hp hp2 hq hq2
  unfold m_edges_in
  rw [Option.bind_some, szO_ok (by simp [enumL, enumG]), Option.bind_some]
  have o1 : m_piece_in (0, 0, 1) (p, 0, 1) = some ((0, 0, 1), (p, 0, 1)) := by
    unfold m_piece_in
    rw [order_ok A.b3 B.b3, Option.bind_some]
    have : sg (od (0, 0, 1) (p, 0, 1)) < 0 := by
      have : od (0, 0, 1) (p, 0, 1) = -p := by unfold od; simp; omega
      rw [this]; unfold sg; rw [if_neg (by omega), if_pos (by omega)]; decide
    rw [if_pos (by simpa using this)]
  have o2 : m_piece_in (p, 0, 1) (p, q, 1) = some ((p, 0, 1), (p, q, 1)) := by
    unfold m_piece_in
    rw [order_ok B.b3 C.b3, Option.bind_some]
    have : sg (od (p, 0, 1) (p, q, 1)) < 0 := by
      have : od (p, 0, 1) (p, q, 1) = -q := by unfold od; simp
      rw [this]; unfold sg; rw [if_neg (by omega), if_pos (by omega)]; decide
    rw [if_pos (by simpa using this)]
  have o3 : m_piece_in (p, q, 1) (0, 0, 1) = some ((0, 0, 1), (p, q, 1)) := by
    unfold m_piece_in
    rw [order_ok C.b3 A.b3, Option.bind_some]
    have : ¬ sg (od (p, q, 1) (0, 0, 1)) < 0 := by
      have : od (p, q, 1) (0, 0, 1) = p := by unfold od; simp; omega
      rw [this]; unfold sg; rw [if_pos (by omega)]; decide
    rw [if_neg (by simpa using this)]
  have b0 : m_behind (tri p q) 0 = some (p, 0, 1) := by unfold m_behind; rw [show ((tri p q).length : Int) = 3 from rfl, show modO (0 + 1) 3 = some 1 by decide]; rfl
  have b1 : m_behind (tri p q) 1 = some (p, q, 1) := by unfold m_behind; rw [show ((tri p q).length : Int) = 3 from rfl, show modO (1 + 1) 3 = some 2 by decide]; rfl
  have b2 : m_behind (tri p q) 2 = some (0, 0, 1) := by unfold m_behind; rw [show ((tri p q).length : Int) = 3 from rfl, show modO (2 + 1) 3 = some 0 by decide]; rfl
  simp [enumL, enumG, mapO, b0, b1, b2, o1, o2, o3]
theorem do_ok {e : List (P3 × P3)} {i j : Int} {a b c d : P3} (h1 : ixO e i = some (a, b)) (h2 : ixO e j = some (c, d)) (h3 : ∃ x, m_cross_in (a, b) (c, d) = some (.tuple [x])) : m_do_meet (tri p q) e i j = some false := by
  obtain ⟨x, h3⟩ := h3
  unfold m_do_meet
  rw [h1, Option.bind_some, h2, Option.bind_some, h3, Option.bind_some, if_pos (by simp)]
  rfl
theorem meets_ok : m_meets_in (tri p q) = some [] := by
  have hpq := pq_pos hp hp2 hq hq2
  have A := tA hp hp2 hq hq2
  have B := tB hp hp2 hq hq2
  have C := tC hp hp2 hq hq2
  unfold m_meets_in
  rw [edges_ok hp hp2 hq hq2, Option.bind_some, show ((tri p q).length : Int) = 3 from rfl, show rgO 3 = some [0, 1, 2] by rfl, Option.bind_some]
  have zAB : cr (0, 0, 1) (p, 0, 1) = (0, p, 0) := by unfold cr; simp
  have zBC : cr (p, 0, 1) (p, q, 1) = (-q, 0, p * q) := by unfold cr; simp
  have zAC : cr (0, 0, 1) (p, q, 1) = (-q, p, 0) := by unfold cr; simp
  have s1 : ∀ x : Int, 0 < x → sg x = 1 := fun x h => by unfold sg; rw [if_pos h]
  have s2 : ∀ x : Int, x < 0 → sg x = -1 := fun x h => by unfold sg; rw [if_neg (by omega), if_pos h]
  have s0 : sg 0 = 0 := rfl
  have e1 : ∃ x, m_cross_in ((0, 0, 1), (p, 0, 1)) ((p, 0, 1), (p, q, 1)) = some (.tuple [x]) := by
    refine cross_one A B B C ?_ ?_ ?_ ?_ ?_ <;> (try rw [zAB]) <;> (try rw [zBC])
    · have h1 : dt (0, p, 0) (p, 0, 1) = 0 := by unfold dt; simp
      have h2 : dt (0, p, 0) (p, q, 1) = p * q := by unfold dt; simp
      rw [h1, h2, s1 _ hpq]; simp
    · have h1 : dt (0, p, 0) (p, 0, 1) = 0 := by unfold dt; simp
      rw [h1, s0]; simp
    · have h2 : dt (-q, 0, p * q) (p, 0, 1) = 0 := by unfold dt; simp; grind
      rw [h2, s0]; simp
    · unfold NZ; simp; omega
    · unfold NZ; simp; omega
  have e2 : ∃ x, m_cross_in ((0, 0, 1), (p, 0, 1)) ((0, 0, 1), (p, q, 1)) = some (.tuple [x]) := by
    refine cross_one A B A C ?_ ?_ ?_ ?_ ?_ <;> (try rw [zAB]) <;> (try rw [zAC])
    · have h2 : dt (0, p, 0) (p, q, 1) = p * q := by unfold dt; simp
      rw [h2, s1 _ hpq]; simp
    · have h1 : dt (0, p, 0) (0, 0, 1) = 0 := by unfold dt; simp
      rw [h1, s0]; simp
    · have h2 : dt (-q, p, 0) (0, 0, 1) = 0 := by unfold dt; simp
      rw [h2, s0]; simp
    · unfold NZ; simp; omega
    · unfold NZ; simp; omega
  have e3 : ∃ x, m_cross_in ((p, 0, 1), (p, q, 1)) ((0, 0, 1), (p, q, 1)) = some (.tuple [x]) := by
    refine cross_one B C A C ?_ ?_ ?_ ?_ ?_ <;> (try rw [zBC]) <;> (try rw [zAC])
    · have h2 : dt (-q, 0, p * q) (0, 0, 1) = p * q := by unfold dt; simp
      rw [h2, s1 _ hpq]; simp
    · have h1 : dt (-q, 0, p * q) (p, q, 1) = 0 := by unfold dt; simp; grind
      rw [h1, s0]; simp
    · have h2 : dt (-q, p, 0) (p, q, 1) = 0 := by unfold dt; simp; grind
      rw [h2, s0]; simp
    · unfold NZ; simp; omega
    · unfold NZ; simp; omega
  have d01 := do_ok hp hp2 hq hq2 (e := [((0, 0, 1), (p, 0, 1)), ((p, 0, 1), (p, q, 1)), ((0, 0, 1), (p, q, 1))]) (i := 0) (j := 1) rfl rfl e1
  have d02 := do_ok hp hp2 hq hq2 (e := [((0, 0, 1), (p, 0, 1)), ((p, 0, 1), (p, q, 1)), ((0, 0, 1), (p, q, 1))]) (i := 0) (j := 2) rfl rfl e2
  have d12 := do_ok hp hp2 hq hq2 (e := [((0, 0, 1), (p, 0, 1)), ((p, 0, 1), (p, q, 1)), ((0, 0, 1), (p, q, 1))]) (i := 1) (j := 2) rfl rfl e3
  have r0 : rgO 0 = some [] := by rfl
  have r1 : rgO 1 = some [0] := by rfl
  have r2 : rgO 2 = some [0, 1] := by rfl
  have cc : catO ([] : List (Int × Int)) [] = some [] := by unfold catO; rw [if_pos (by decide)]; rfl
  simp [forS, fmO, r0, r1, r2, d01, d02, d12, szO_ok, cc, sorted0]
end
end Abs
namespace Abs
open Flo PySem
theorem gc_one (a : Int) : gc a 1 = 1 := by unfold gc; simp
theorem gc_zero_left (a : Int) : gc 0 a = a.natAbs := by unfold gc; simp
theorem gc_zero_right (a : Int) : gc a 0 = a.natAbs := by unfold gc; simp
theorem frac_ok (a : Int) : m_fraction_in a 1 = some (a, 1) := by
  unfold m_fraction_in
  rw [common_ok a 1 (by decide) (by decide), Option.bind_some, gc_one, if_neg (by decide), divO_ok (by decide) (by decide +kernel), Option.bind_some, divO_ok (by decide) (by decide +kernel), Option.bind_some, Int.ediv_one]
  rfl
theorem point_ok {u : P3} (h : B3 u) (h1 : u.2.2 = 1) : m_is_point_of u = some true := by
  obtain ⟨u1, u2, u3⟩ := h
  unfold m_is_point_of
  have w : ∀ x : Int, -(10 ^ 40) ≤ x ∧ x ≤ 10 ^ 40 → m_is_within (.int x) (-999999999999999999999999999999999999999999999999999999999999) 999999999999999999999999999999999999999999999999999999999999 = some true := fun x hx => by
    rw [within_ok]
    simp
    omega
  have m : mapO (fun (x2 : Int) => (m_is_within (.int x2) (-999999999999999999999999999999999999999999999999999999999999) 999999999999999999999999999999999999999999999999999999999999).bind fun t5 => some t5) [u.1, u.2.1, u.2.2] = some [true, true, true] := by
    simp only [mapO, w _ u1, w _ u2, w _ u3, Option.bind_some, Option.map_some]
  rw [szO_ok (by simp), Option.bind_some, m, h1, common_ok u.1 u.2.1 (by omega) (by omega), Option.bind_some, Option.bind_some, common_ok _ 1 (by decide) (by decide), gc_one]
  rfl
theorem eqP (u v : P3) : eqO (e_t3iii u) (e_t3iii v) = some (decide (u = v)) := by
  unfold eqO
  rw [if_pos ⟨rfl, rfl⟩]
  obtain ⟨a, b, c⟩ := u
  obtain ⟨x, y, z⟩ := v
  simp [e_t3iii, PyData.eqv, PyData.eqvAll, Bool.and_assoc]
  rfl
section
variable {p q : Int} (hp : 1 ≤ p) (hp2 : p ≤ 10 ^ 9) (hq : 1 ≤ q) (hq2 : q ≤ 10 ^ 9)
include hp hp2 hq hq2
theorem corners_ok : m_are_corners_of (tri p q) = some true := by
  have A := tA hp hp2 hq hq2
  have B := tB hp hp2 hq hq2
  have C := tC hp hp2 hq hq2
  unfold m_are_corners_of
  rw [show ((tri p q).length : Int) = 3 from rfl, if_neg (by decide), szO_ok (by simp), Option.bind_some]
  have m : mapO (fun (x3 : (Int × Int × Int)) => (m_is_point_of x3).bind fun t6 => some t6) (tri p q) = some [true, true, true] := by
    simp only [mapO, point_ok A.b3 rfl, point_ok B.b3 rfl, point_ok C.b3 rfl, Option.bind_some, Option.map_some]
  rw [m, Option.bind_some, if_neg (by decide), Option.bind_some, szO_ok (by simp [enumL, enumG]), Option.bind_some]
  have i0 : ixO (tri p q) (-1) = some (p, q, 1) := rfl
  have i1 : ixO (tri p q) 0 = some (0, 0, 1) := rfl
  have i2 : ixO (tri p q) 1 = some (p, 0, 1) := rfl
  have n1 : ¬ (0 = p ∧ 0 = q) := by omega
  have n2 : ¬ p = 0 := by omega
  have n3 : ¬ q = 0 := by omega
  simp [enumL, enumG, mapO, i0, i1, i2, eqP, n1, n2, n3]
theorem area_ok : m_area_of (tri p q) = some (p * q, 1) := by
  have A := tA hp hp2 hq hq2
  have B := tB hp hp2 hq hq2
  have C := tC hp hp2 hq hq2
  have hb := pq_bd hp hp2 hq hq2
  have h0 := pq_pos hp hp2 hq hq2
  unfold m_area_of
  rw [show ((tri p q).length : Int) - 1 = 2 from rfl, show rg2O 1 2 = some [1] by rfl, Option.bind_some]
  have a1 : m_area_in (0, 0, 1) (p, 0, 1) (p, q, 1) = some (p * q, 1) := by
    unfold m_area_in
    rw [crossed_ok A.b3 B.b3, Option.bind_some, dotted_ok (cr_bd A.b3 B.b3) C.b3, Option.bind_some, show mulO (((0 : Int), (0 : Int), (1 : Int)) : P3).2.2 ((p, 0, 1) : P3).2.2 = some 1 by rfl, Option.bind_some, show mulO 1 ((p, q, 1) : P3).2.2 = some 1 by rfl, Option.bind_some]
    have : dt (cr (0, 0, 1) (p, 0, 1)) (p, q, 1) = p * q := by unfold dt cr; simp
    rw [this, frac_ok]; rfl
  have ad : m_added (0, 1) (p * q, 1) = some (p * q, 1) := by
    unfold m_added
    simp only []
    rw [mulO_ok (by decide +kernel) (by decide +kernel) (by decide +kernel) (by decide +kernel), Option.bind_some, mulO_ok (by unfold BB; omega) (by unfold BB; omega) (by decide +kernel) (by decide +kernel), Option.bind_some, mulO_ok (by decide +kernel) (by decide +kernel) (by decide +kernel) (by decide +kernel), Option.bind_some]
    rw [show 0 * 1 + p * q * 1 = p * q by omega, show (1 : Int) * 1 = 1 by rfl, frac_ok]; rfl
  have j0 : ixO (tri p q) 0 = some (0, 0, 1) := rfl
  have j1 : ixO (tri p q) 1 = some (p, 0, 1) := rfl
  have j2 : ixO (tri p q) (1 + 1) = some (p, q, 1) := rfl
  simp only [forS, j0, j1, j2, Option.bind_some, a1, ad]
theorem told_ok : m_told_ring (tri p q) = some (tri p q) := by
  have A := tA hp hp2 hq hq2
  have B := tB hp hp2 hq hq2
  have C := tC hp hp2 hq hq2
  have h0 := pq_pos hp hp2 hq hq2
  unfold m_told_ring
  rw [area_ok hp hp2 hq hq2, Option.bind_some, if_pos (by simpa using h0), Option.bind_some, Option.bind_some]
  have j0 : ixO (tri p q) 0 = some (0, 0, 1) := rfl
  have o0 : m_order_in (0, 0, 1) (0, 0, 1) = some 0 := by rw [order_ok A.b3 A.b3]; rfl
  have o1 : m_order_in (p, 0, 1) (0, 0, 1) = some 1 := by
    rw [order_ok B.b3 A.b3]
    have : od (p, 0, 1) (0, 0, 1) = p := by unfold od; simp; omega
    rw [this]; unfold sg; rw [if_pos (by omega)]
  have o2 : m_order_in (p, q, 1) (0, 0, 1) = some 1 := by
    rw [order_ok C.b3 A.b3]
    have : od (p, q, 1) (0, 0, 1) = p := by unfold od; simp; omega
    rw [this]; unfold sg; rw [if_pos (by omega)]
  have f : forS (fun (x7 : (Int × (Int × Int × Int))) (s6 : Int) => (ixO (tri p q) s6).bind fun t10 => (m_order_in x7.2 t10).bind fun t11 => (if (decide (t11 < 0)) = true then (some x7.1) else (some s6) : Option (Int)).bind fun j12 => some j12) (enumL (tri p q)) 0 = some 0 := by
    simp [enumL, enumG, forS, j0, o0, o1, o2]
  rw [f, Option.bind_some]
  have c : catO (cutL (tri p q) (some 0) none) (cutL (tri p q) none (some 0)) = some (tri p q) := by
    have e1 : cutL (tri p q) (some 0) none = tri p q := rfl
    have e2 : cutL (tri p q) none (some 0) = [] := rfl
    rw [e1, e2]
    unfold catO
    rw [if_pos (by show 3 ≤ sizeLine; decide), List.append_nil]
  rw [c]; rfl
theorem ring_ok : m_ring_by (tri p q) = some (tri p q) := by
  unfold m_ring_by m_require_corners
  rw [corners_ok hp hp2 hq hq2, Option.bind_some, if_neg (by decide), Option.bind_some, straight_ok hp hp2 hq hq2, Option.bind_some, meets_ok hp hp2 hq hq2, Option.bind_some, eqO_of (by rfl) (by rfl), Option.bind_some, if_neg (by decide), eqO_of (by rfl) (by rfl), Option.bind_some, if_neg (by decide), told_ok hp hp2 hq hq2]
  rfl
theorem isring_ok : m_is_ring_of (tri p q) = some true := by
  unfold m_is_ring_of
  rw [corners_ok hp hp2 hq hq2, Option.bind_some, if_neg (by decide), straight_ok hp hp2 hq hq2, Option.bind_some, eqO_of (by rfl) (by rfl), Option.bind_some, if_neg (by decide), meets_ok hp hp2 hq hq2, Option.bind_some, eqO_of (by rfl) (by rfl), Option.bind_some, Option.bind_some, Option.bind_some, if_neg (by decide), told_ok hp hp2 hq hq2, Option.bind_some, eqO_of (by rfl) (by rfl)]
  rfl
theorem whole_ok : m_require_whole_ring (tri p q) = some () := by
  unfold m_require_whole_ring m_require_ring m_is_whole_in
  rw [szO_ok (by simp), Option.bind_some]
  have m : mapO (fun (x2 : (List (Int × Int × Int))) => (m_is_ring_of x2).bind fun t5 => some t5) [tri p q] = some [true] := by
    simp only [mapO, isring_ok hp hp2 hq hq2, Option.bind_some, Option.map_some]
  rw [m, Option.bind_some, if_neg (by decide), Option.bind_some, szO_ok (by simp), Option.bind_some]
  rfl
theorem rim_ok : m_rim_in (tri p q) = some (p + q + gc p q) := by
  unfold m_rim_in
  rw [edges_ok hp hp2 hq hq2, Option.bind_some, szO_ok (by simp), Option.bind_some]
  have c1 := common_ok (p - 0) (0 - 0) (by decide) (by decide)
  have c2 := common_ok (p - p) (q - 0) (by omega) (by omega)
  have c3 := common_ok (p - 0) (q - 0) (by omega) (by omega)
  simp only [mapO, c1, c2, c3, Option.bind_some, Option.map_some]
  have g1 : gc (p - 0) (0 - 0) = p := by rw [show (0 : Int) - 0 = 0 by rfl, gc_zero_right]; omega
  have g2 : gc (p - p) (q - 0) = q := by rw [Int.sub_self, gc_zero_left]; omega
  rw [g1, g2, Int.sub_zero, Int.sub_zero]
  simp
  omega
theorem rimp_ok : m_rim_points (tri p q) = some (p + q + gc p q) := by
  unfold m_rim_points
  rw [whole_ok hp hp2 hq hq2, Option.bind_some, rim_ok hp hp2 hq hq2]; rfl
theorem within_pts : m_within_points (tri p q) = some ((p * q - (p + q + gc p q) + 2) / 2) := by
  have hb := pq_bd hp hp2 hq hq2
  have h0 := pq_pos hp hp2 hq hq2
  unfold m_within_points m_inner_in
  rw [whole_ok hp hp2 hq hq2, Option.bind_some, area_ok hp hp2 hq hq2, Option.bind_some, rim_ok hp hp2 hq hq2, Option.bind_some, divO_ok (by decide) (by decide +kernel)]
  rfl
end
theorem pairs_ok (d : Dice) (hd : DiceOk d) : ∃ p, m__law_pairs_right d = some p ∧ p.1 = true ∧ DiceOk p.2 := by
  unfold m__law_pairs_right
  obtain ⟨p1, e1, i1, c1⟩ := one_of_ok d ([9, 60, 100000, 100000000] : List Int) hd (by decide) (by decide)
  have i1' : 0 < p1.1 ∧ p1.1 ≤ 100000000 := by simp at i1; omega
  obtain ⟨p2, e2, t1, t2, c2⟩ := roll_ok p1.2 5 c1 (by decide) (by decide +kernel)
  obtain ⟨p3, e3, a1, a2, c3⟩ := great_ok p2.2 p1.1 c2 (by omega)
  obtain ⟨p4, e4, b1, b2, c4⟩ := great_ok p3.2 p1.1 c3 (by omega)
  rw [e1, Option.bind_some, e2, Option.bind_some, e3, Option.bind_some, e4, Option.bind_some, mulO_ok (by unfold BB; omega) (by unfold BB; omega) (by unfold BB; omega) (by unfold BB; omega), Option.bind_some, mulO_ok (by unfold BB; omega) (by unfold BB; omega) (by unfold BB; omega) (by unfold BB; omega), Option.bind_some]
  have x1 := mul_bd (1 + p2.1) (1 + p3.1) 5 100000000 (by omega) (by omega) (by omega) (by omega) (by decide) (by decide)
  have x2 := mul_bd (1 + p2.1) (1 + p4.1) 5 100000000 (by omega) (by omega) (by omega) (by omega) (by decide) (by decide)
  have x3 : 0 < (1 + p2.1) * (1 + p3.1) := Int.mul_pos (by omega) (by omega)
  have x4 : 0 < (1 + p2.1) * (1 + p4.1) := Int.mul_pos (by omega) (by omega)
  generalize (1 + p2.1) * (1 + p3.1) = p at *
  generalize (1 + p2.1) * (1 + p4.1) = q at *
  have hp : 1 ≤ p := by omega
  have hp2 : p ≤ 10 ^ 9 := by omega
  have hq : 1 ≤ q := by omega
  have hq2 : q ≤ 10 ^ 9 := by omega
  have y1 := mul_bd (p - 1) (q - 1) (10 ^ 9) (10 ^ 9) (by omega) (by omega) (by omega) (by omega) (by decide) (by decide)
  have np : ((p.toNat : Nat) : Int) = p := by omega
  have nq : ((q.toNat : Nat) : Int) = q := by omega
  have w1 := S_whole2 p.toNat q (by omega)
  have w2 := S_whole2 q.toNat p (by omega)
  rw [np] at w1
  rw [nq] at w2
  have hgc : gc q p = gc p q := gc_comm q p
  rw [hgc] at w1
  have g0 := gc_pos p q (by omega)
  have g1 := gc_le p q (by omega)
  have ep : p - 1 + 1 = p := by omega
  rw [lawcommon_ok p q (by omega) (by omega), Option.bind_some, mulO_ok (by unfold BB; omega) (by unfold BB; omega) (by unfold BB; omega) (by unfold BB; omega), Option.bind_some, divO_ok (by decide) (by decide +kernel), Option.bind_some]
  have due : ((p - 1) * (q - 1) + gc p q - 1) / 2 = S p.toNat q 0 p := by omega
  have w3 : (q - 1) * (p - 1) = (p - 1) * (q - 1) := Int.mul_comm _ _
  have eqs : S q.toNat p 0 q = S p.toNat q 0 p := by omega
  rw [due, fs_ok p q 0 p hp (by omega) (by omega) (by omega) (by decide) (by decide +kernel) hp (by omega), Option.bind_some, if_neg (by simp), fs_ok q p 0 q hq (by omega) (by omega) (by omega) (by decide) (by decide +kernel) hq (by omega), Option.bind_some, eqs, Option.bind_some, if_neg (by simp)]
  rw [show ([(0, 0, 1), (p, 0, 1), (p, q, 1)] : List (Int × Int × Int)) = tri p q from rfl, ring_ok hp hp2 hq hq2, Option.bind_some, rimp_ok hp hp2 hq hq2, Option.bind_some, if_neg (by simp), within_pts hp hp2 hq hq2, Option.bind_some, Option.bind_some]
  have pq1 : (p - 1) * (q - 1) = p * q - p - q + 1 := by grind
  have fs1 : m_floor_sum (p + 1) q 0 p = some (S p.toNat q 0 p + q) := by
    by_cases big : p = 10 ^ 9
    · exfalso; omega
    · rw [fs_ok (p + 1) q 0 p (by omega) (by omega) (by omega) (by omega) (by decide) (by decide +kernel) hp (by omega), show (p + 1).toNat = p.toNat + 1 by omega, S_last, np, Int.add_zero, Int.mul_ediv_cancel _ (by omega)]
  rw [fs1, Option.bind_some, Option.bind_some]
  have win : (p * q - (p + q + gc p q) + 2) / 2 + (p + q + gc p q) = p + 1 + (S p.toNat q 0 p + q) := by omega
  rw [if_neg (by simpa using win), Option.bind_some]
  have win2 : (p * q - (p + q + gc p q) + 2) / 2 = S p.toNat q 0 p - (gc p q - 1) := by omega
  rw [if_neg (by simpa using win2), mulO_ok (by decide +kernel) (by decide +kernel) (by unfold BB; omega) (by unfold BB; omega), Option.bind_some, mulO_ok (by decide +kernel) (by decide +kernel) (by unfold BB; omega) (by unfold BB; omega), Option.bind_some,
    lawcommon_ok _ _ (by omega) (by omega), Option.bind_some, divO_ok (by decide) (by decide +kernel), Option.bind_some]
  have h1 : (2 * p + 1 + 1) / 2 = p + 1 := by omega
  have h2 : (2 * q + 1 + 1) / 2 = q + 1 := by omega
  have h3 : (2 * p + 1) / 2 = p := by omega
  have h4 : (2 * q + 1) / 2 = q := by omega
  have z1 := mul_bd p q (10 ^ 9) (10 ^ 9) (by omega) (by omega) (by omega) (by omega) (by decide) (by decide)
  rw [h1, fs_ok (p + 1) (2 * q + 1) 0 (2 * p + 1) (by omega) (by omega) (by omega) (by omega) (by decide) (by decide +kernel) (by omega) (by omega), Option.bind_some, divO_ok (by decide) (by decide +kernel), Option.bind_some, h2,
    fs_ok (q + 1) (2 * p + 1) 0 (2 * q + 1) (by omega) (by omega) (by omega) (by omega) (by decide) (by decide +kernel) (by omega) (by omega), Option.bind_some, divO_ok (by decide) (by decide +kernel), Option.bind_some, divO_ok (by decide) (by decide +kernel), Option.bind_some, h3, h4,
    mulO_ok (by unfold BB; omega) (by unfold BB; omega) (by unfold BB; omega) (by unfold BB; omega), Option.bind_some, divO_ok (by decide) (by decide +kernel), Option.bind_some]
  have e := eis p.toNat q.toNat
  rw [np, nq] at e
  refine ⟨_, rfl, ?_, c4⟩
  rw [show (p + 1).toNat = p.toNat + 1 by omega, show (q + 1).toNat = q.toNat + 1 by omega]
  simpa using e
end Abs
namespace Abs
open Flo PySem
theorem dice_ok (ns : List Int) (x : Int) (h0 : 0 ≤ x) (h1 : x ≤ 10) : ∃ d, m__law_dice ns x = some d ∧ DiceOk d := by
  unfold m__law_dice
  have hc : ∃ c, (if (decide (x < (ns.length : Int))) = true then ((ixO ns x).bind fun t1 => some t1) else ((mulO 131 x).bind fun t2 => some (t2 + 71))) = some c := by
    by_cases c : x < (ns.length : Int)
    · rw [if_pos (by simpa using c)]
      obtain ⟨y, e, _⟩ := ixO_nat ns x h0 c
      rw [e]
      exact ⟨_, rfl⟩
    · rw [if_neg (by simpa using c), mulO_ok (by decide +kernel) (by decide +kernel) (by unfold BB; omega) (by unfold BB; omega)]
      exact ⟨_, rfl⟩
  obtain ⟨c, hc⟩ := hc
  rw [hc, Option.bind_some, modO_ok (by decide), Option.bind_some, modO_ok (by decide), Option.bind_some, mulO_ok (by decide +kernel) (by decide +kernel) (by unfold BB; omega) (by unfold BB; omega), Option.bind_some]
  have h31 : ∃ y, mulO 31 (if (decide (c < 0)) = true then (1 : Int) else 0) = some y := by
    split <;> exact ⟨_, mulO_ok (by decide +kernel) (by decide +kernel) (by decide +kernel) (by decide +kernel)⟩
  obtain ⟨y, hy⟩ := h31
  rw [hy, Option.bind_some, modO_ok (by decide), Option.bind_some]
  exact ⟨_, rfl, Int.emod_nonneg _ (by decide), Int.emod_lt_of_pos _ (by decide)⟩
theorem forL_go {α τ β : Type} {body : α → τ → Option (Lo τ β)} (P : τ → Prop) : ∀ (xs : List α), (∀ x ∈ xs, ∀ s, P s → ∃ s', body x s = some (.go s') ∧ P s') → ∀ s, P s → ∃ s', forL body xs s = some (.brk s') ∧ P s'
  | [], _, s, hs => ⟨s, rfl, hs⟩
  | x :: xs, h, s, hs => by
    obtain ⟨s1, e, h1⟩ := h x List.mem_cons_self s hs
    unfold forL
    rw [e, Option.bind_some]
    exact forL_go P xs (fun y hy => h y (List.mem_cons_of_mem _ hy)) s1 h1
theorem inner_go (x : Int) (d : Dice) (hd : DiceOk d) : ∃ d', ((m__law_parts_right d).bind fun p12 => (if (!p12.1) = true then some (true, p12.2) else ((m__law_rests_right p12.2 ).bind fun p13 => (if (!p13.1) = true then some (true, p13.2) else ((m__law_pairs_right p13.2 ).bind fun p14 => some ((!p14.1), p14.2))).bind fun t16 => some (t16.1, t16.2))).bind fun t18 => if t18.1 = true then (some (.ret (false, t18.2))) else (some (.go t18.2)) : Option (Lo (Dice) (Bool × Dice))) = some (.go d') ∧ DiceOk d' := by
  obtain ⟨p1, e1, h1, c1⟩ := parts_ok d hd
  obtain ⟨p2, e2, h2, c2⟩ := rests_ok p1.2 c1
  obtain ⟨p3, e3, h3, c3⟩ := pairs_ok p2.2 c2
  rw [e1, Option.bind_some, h1, if_neg (by decide), e2, Option.bind_some, h2, if_neg (by decide), e3, Option.bind_some, h3]
  exact ⟨p3.2, rfl, c3⟩
theorem consts_ok : m_floor_sum 7 5 0 7 = some 12 ∧ m_floor_sum 7 (-5) 0 7 = some (-18) ∧ m_floor_sum 3 0 (-1) 7 = some (-3) ∧ m_floor_sum 1000000000 1 0 1000000000 = some 0 ∧ m_floor_sum 1000000000 1000000000 1 1000000001 = some 499999998500000002 := by
  have big : S (1000000000 : Int).toNat 1000000000 1 1000000001 = 499999998500000002 := by
    have h := floors_ok (1000000000 : Int).toNat 1000000000 1 1000000001 (by decide) (by decide) (by decide) (by decide) (by decide) (by decide) (by decide)
    have h2 : m_floors_in (((1000000000 : Int).toNat : Nat) : Int) 1000000000 1 1000000001 = some 499999998500000002 := by decide +kernel
    rw [h2] at h
    exact (someS h).symm
  have zero : S (1000000000 : Int).toNat 1 0 1000000000 = 0 := S_small _ _ _ _ (by decide) (by decide) (by decide)
  refine ⟨?_, ?_, ?_, ?_, ?_⟩
  · rw [fs_ok 7 5 0 7 (by decide) (by decide) (by decide) (by decide) (by decide) (by decide) (by decide) (by decide)]; rfl
  · rw [fs_ok 7 (-5) 0 7 (by decide) (by decide) (by decide) (by decide) (by decide) (by decide) (by decide) (by decide)]; rfl
  · rw [fs_ok 3 0 (-1) 7 (by decide) (by decide) (by decide) (by decide) (by decide) (by decide) (by decide) (by decide)]; rfl
  · rw [fs_ok 1000000000 1 0 1000000000 (by decide) (by decide) (by decide) (by decide) (by decide) (by decide) (by decide) (by decide), zero]
  · rw [fs_ok 1000000000 1000000000 1 1000000001 (by decide) (by decide) (by decide) (by decide) (by decide) (by decide) (by decide) (by decide), big]
theorem law_true (ns : List Int) (hl : ns.length ≤ 63) : m_law ns = some true := by
  unfold m_law
  have hr : ∃ xs : List Int, rgO (max 1 (min 2 (ns.length : Int))) = some xs ∧ ∀ x ∈ xs, 0 ≤ x ∧ x ≤ 10 := by
    unfold rgO
    rw [if_pos (by omega)]
    refine ⟨_, rfl, fun x hx => ?_⟩
    simp at hx
    obtain ⟨i, hi, rfl⟩ := hx
    omega
  obtain ⟨xs, e, hx⟩ := hr
  rw [e, Option.bind_some]
  obtain ⟨c1, c2, c3, c4, c5⟩ := consts_ok
  have hout := forL_go (β := Bool × Dice) (body := (fun (x3 : Int) (s2 : Unit) => ((m__law_dice ns x3).bind fun t6 => (rgO 3).bind fun t7 => (forL (fun (x9 : Int) (s8 : Dice) => ((m__law_parts_right s8 ).bind fun p12 => (if (!p12.1) = true then some (true, p12.2) else ((m__law_rests_right p12.2 ).bind fun p13 => (if (!p13.1) = true then some (true, p13.2) else ((m__law_pairs_right p13.2 ).bind fun p14 => some ((!p14.1), p14.2))).bind fun t16 => some (t16.1, t16.2))).bind fun t18 => if t18.1 = true then (some (.ret (false, t18.2))) else (some (.go t18.2)) : Option (Lo (Dice) (Bool × Dice)))) t7 t6).bind fun o21 => match o21 with | .go s11 => (some (.go ())) | .brk s11 => (some (.go ())) | .ret b20 => (some (.ret b20)) : Option (Lo (Unit) (Bool × Dice))))) (fun _ => True) xs (fun x hx' s _ => by
    obtain ⟨d, e1, hd⟩ := dice_ok ns x (hx x hx').1 (hx x hx').2
    rw [e1, Option.bind_some, show rgO 3 = some [0, 1, 2] by rfl, Option.bind_some]
    obtain ⟨d', e2, _⟩ := forL_go (β := Bool × Dice) DiceOk [0, 1, 2] (fun x _ d hd => inner_go x d hd) d hd
    rw [e2]
    exact ⟨(), rfl, trivial⟩) () trivial
  obtain ⟨s', e2, _⟩ := hout
  refine Eq.trans (congrArg (fun o => Option.bind o _) e2) ?_
  show ((m_floor_sum 7 5 0 7).bind fun t24 => _) = _
  rw [c1, Option.bind_some, c2, Option.bind_some, c3, Option.bind_some, c4, Option.bind_some, c5, Option.bind_some, Option.bind_some, divO_ok (by decide) (by decide +kernel), Option.bind_some, eqO_of (by rfl) (by rfl)]
  rfl
end Abs
open PySem PySem.W PyProof.Rows
set_option maxHeartbeats 0 in
theorem PySem.Challenge.cw_trueroom_k12_whole_floors_counted_from_b_holds : PySem.Challenge.rw_trueroom_k12_whole_floors_counted_from_b.Holds := by
  w_on; o_law; k_head; (case hw => w_witness2)
  k_fill
  refine L2.walk_of (l := PySem.Challenge.rw_trueroom_k12_whole_floors_counted_from_b) (n := 63) (k := 13) (x := "script") (CX := fun _ => L2.CX0) (sp := fun w => Abs.spR _ Abs.R_law) rfl (by decide) rfl ⟨rfl, by decide, by decide⟩ (fun w h Y => PySem.W.kIn_of Y) ?F (fun _ _ a ns hl _ hS => Abs.sp_law hS ⟨ns, rfl, rfl, true, Abs.law_true ns hl, rfl⟩) (fun _ _ _ _ _ h => h)
  case F =>
    intro w mg fa h KX G hmg
    refine' Abs.all_mk KX G hmg ?a__law_dice ?l__law_dice ?c__law_dice ?k__law_dice ?a__law_roll ?l__law_roll ?c__law_roll ?k__law_roll ?a__law_great ?l__law_great ?c__law_great ?k__law_great ?a__law_one_of ?l__law_one_of ?c__law_one_of ?k__law_one_of ?a__law_signed ?l__law_signed ?c__law_signed ?k__law_signed ?a_is_within ?l_is_within ?c_is_within ?k_is_within ?a_require_many ?l_require_many ?c_require_many ?k_require_many ?a_is_integer ?l_is_integer ?c_is_integer ?k_is_integer ?a_require_integer ?l_require_integer ?c_require_integer ?k_require_integer ?a_floors_in ?l_floors_in ?c_floors_in ?k_floors_in ?a_floor_sum ?l_floor_sum ?c_floor_sum ?k_floor_sum ?a__law_parts_right ?l__law_parts_right ?c__law_parts_right ?k__law_parts_right ?a__law_common ?l__law_common ?c__law_common ?k__law_common ?a__law_rests_right ?l__law_rests_right ?c__law_rests_right ?k__law_rests_right ?a_common ?l_common ?c_common ?k_common ?a_is_point_of ?l_is_point_of ?c_is_point_of ?k_is_point_of ?a_are_corners_of ?l_are_corners_of ?c_are_corners_of ?k_are_corners_of ?a_require_corners ?l_require_corners ?c_require_corners ?k_require_corners ?a_sign_of ?l_sign_of ?c_sign_of ?k_sign_of ?a_dotted ?l_dotted ?c_dotted ?k_dotted ?a_crossed ?l_crossed ?c_crossed ?k_crossed ?a_turn_in ?l_turn_in ?c_turn_in ?k_turn_in ?a_behind ?l_behind ?c_behind ?k_behind ?a_bent_in ?l_bent_in ?c_bent_in ?k_bent_in ?a_straight_in ?l_straight_in ?c_straight_in ?k_straight_in ?a_order_in ?l_order_in ?c_order_in ?k_order_in ?a_piece_in ?l_piece_in ?c_piece_in ?k_piece_in ?a_edges_in ?l_edges_in ?c_edges_in ?k_edges_in ?a_along_in ?l_along_in ?c_along_in ?k_along_in ?a_lowest ?l_lowest ?c_lowest ?k_lowest ?a_point_of ?l_point_of ?c_point_of ?k_point_of ?a_meet_in ?l_meet_in ?c_meet_in ?k_meet_in ?a_line_of ?l_line_of ?c_line_of ?k_line_of ?a_line_in ?l_line_in ?c_line_in ?k_line_in ?a_cross_in ?l_cross_in ?c_cross_in ?k_cross_in ?a_do_meet ?l_do_meet ?c_do_meet ?k_do_meet ?a_meets_in ?l_meets_in ?c_meets_in ?k_meets_in ?a_fraction_in ?l_fraction_in ?c_fraction_in ?k_fraction_in ?a_added ?l_added ?c_added ?k_added ?a_area_in ?l_area_in ?c_area_in ?k_area_in ?a_area_of ?l_area_of ?c_area_of ?k_area_of ?a_told_ring ?l_told_ring ?c_told_ring ?k_told_ring ?a_ring_by ?l_ring_by ?c_ring_by ?k_ring_by ?a_is_ring_of ?l_is_ring_of ?c_is_ring_of ?k_is_ring_of ?a_require_ring ?l_require_ring ?c_require_ring ?k_require_ring ?a_is_whole_in ?l_is_whole_in ?c_is_whole_in ?k_is_whole_in ?a_require_whole_ring ?l_require_whole_ring ?c_require_whole_ring ?k_require_whole_ring ?a_rim_in ?l_rim_in ?c_rim_in ?k_rim_in ?a_rim_points ?l_rim_points ?c_rim_points ?k_rim_points ?a_inner_in ?l_inner_in ?c_inner_in ?k_inner_in ?a_within_points ?l_within_points ?c_within_points ?k_within_points ?a__law_pairs_right ?l__law_pairs_right ?c__law_pairs_right ?k__law_pairs_right ?a_law ?l_law ?c_law ?k_law ?z_abs ?z_all ?z_bool ?z_c_GREAT ?z_c_MOST_CORNERS ?z_c_MOST_TIMES ?z_enumerate ?z_int ?z_isinstance ?z_len ?z_max ?z_min ?z_range ?z_sorted ?z_sum ?z_tuple ?z_zip
    (case a__law_dice => k_is); (case l__law_dice => k_is); (case c__law_dice => k_is); (case k__law_dice => k_is); (case a__law_roll => k_is); (case l__law_roll => k_is); (case c__law_roll => k_is); (case k__law_roll => k_is); (case a__law_great => k_is); (case l__law_great => k_is); (case c__law_great => k_is); (case k__law_great => k_is)
    (case a__law_one_of => k_is); (case l__law_one_of => k_is); (case c__law_one_of => k_is); (case k__law_one_of => k_is); (case a__law_signed => k_is); (case l__law_signed => k_is); (case c__law_signed => k_is); (case k__law_signed => k_is); (case a_is_within => k_is); (case l_is_within => k_is); (case c_is_within => k_is); (case k_is_within => k_is)
    (case a_require_many => k_is); (case l_require_many => k_is); (case c_require_many => k_is); (case k_require_many => k_is); (case a_is_integer => k_is); (case l_is_integer => k_is); (case c_is_integer => k_is); (case k_is_integer => k_is); (case a_require_integer => k_is); (case l_require_integer => k_is); (case c_require_integer => k_is); (case k_require_integer => k_is)
    (case a_floors_in => k_is); (case l_floors_in => k_is); (case c_floors_in => k_is); (case k_floors_in => k_is); (case a_floor_sum => k_is); (case l_floor_sum => k_is); (case c_floor_sum => k_is); (case k_floor_sum => k_is); (case a__law_parts_right => k_is); (case l__law_parts_right => k_is); (case c__law_parts_right => k_is); (case k__law_parts_right => k_is)
    (case a__law_common => k_is); (case l__law_common => k_is); (case c__law_common => k_is); (case k__law_common => k_is); (case a__law_rests_right => k_is); (case l__law_rests_right => k_is); (case c__law_rests_right => k_is); (case k__law_rests_right => k_is); (case a_common => k_is); (case l_common => k_is); (case c_common => k_is); (case k_common => k_is)
    (case a_is_point_of => k_is); (case l_is_point_of => k_is); (case c_is_point_of => k_is); (case k_is_point_of => k_is); (case a_are_corners_of => k_is); (case l_are_corners_of => k_is); (case c_are_corners_of => k_is); (case k_are_corners_of => k_is); (case a_require_corners => k_is); (case l_require_corners => k_is); (case c_require_corners => k_is); (case k_require_corners => k_is)
    (case a_sign_of => k_is); (case l_sign_of => k_is); (case c_sign_of => k_is); (case k_sign_of => k_is); (case a_dotted => k_is); (case l_dotted => k_is); (case c_dotted => k_is); (case k_dotted => k_is); (case a_crossed => k_is); (case l_crossed => k_is); (case c_crossed => k_is); (case k_crossed => k_is)
    (case a_turn_in => k_is); (case l_turn_in => k_is); (case c_turn_in => k_is); (case k_turn_in => k_is); (case a_behind => k_is); (case l_behind => k_is); (case c_behind => k_is); (case k_behind => k_is); (case a_bent_in => k_is); (case l_bent_in => k_is); (case c_bent_in => k_is); (case k_bent_in => k_is)
    (case a_straight_in => k_is); (case l_straight_in => k_is); (case c_straight_in => k_is); (case k_straight_in => k_is); (case a_order_in => k_is); (case l_order_in => k_is); (case c_order_in => k_is); (case k_order_in => k_is); (case a_piece_in => k_is); (case l_piece_in => k_is); (case c_piece_in => k_is); (case k_piece_in => k_is)
    (case a_edges_in => k_is); (case l_edges_in => k_is); (case c_edges_in => k_is); (case k_edges_in => k_is); (case a_along_in => k_is); (case l_along_in => k_is); (case c_along_in => k_is); (case k_along_in => k_is); (case a_lowest => k_is); (case l_lowest => k_is); (case c_lowest => k_is); (case k_lowest => k_is)
    (case a_point_of => k_is); (case l_point_of => k_is); (case c_point_of => k_is); (case k_point_of => k_is); (case a_meet_in => k_is); (case l_meet_in => k_is); (case c_meet_in => k_is); (case k_meet_in => k_is); (case a_line_of => k_is); (case l_line_of => k_is); (case c_line_of => k_is); (case k_line_of => k_is)
    (case a_line_in => k_is); (case l_line_in => k_is); (case c_line_in => k_is); (case k_line_in => k_is); (case a_cross_in => k_is); (case l_cross_in => k_is); (case c_cross_in => k_is); (case k_cross_in => k_is); (case a_do_meet => k_is); (case l_do_meet => k_is); (case c_do_meet => k_is); (case k_do_meet => k_is)
    (case a_meets_in => k_is); (case l_meets_in => k_is); (case c_meets_in => k_is); (case k_meets_in => k_is); (case a_fraction_in => k_is); (case l_fraction_in => k_is); (case c_fraction_in => k_is); (case k_fraction_in => k_is); (case a_added => k_is); (case l_added => k_is); (case c_added => k_is); (case k_added => k_is)
    (case a_area_in => k_is); (case l_area_in => k_is); (case c_area_in => k_is); (case k_area_in => k_is); (case a_area_of => k_is); (case l_area_of => k_is); (case c_area_of => k_is); (case k_area_of => k_is); (case a_told_ring => k_is); (case l_told_ring => k_is); (case c_told_ring => k_is); (case k_told_ring => k_is)
    (case a_ring_by => k_is); (case l_ring_by => k_is); (case c_ring_by => k_is); (case k_ring_by => k_is); (case a_is_ring_of => k_is); (case l_is_ring_of => k_is); (case c_is_ring_of => k_is); (case k_is_ring_of => k_is); (case a_require_ring => k_is); (case l_require_ring => k_is); (case c_require_ring => k_is); (case k_require_ring => k_is)
    (case a_is_whole_in => k_is); (case l_is_whole_in => k_is); (case c_is_whole_in => k_is); (case k_is_whole_in => k_is); (case a_require_whole_ring => k_is); (case l_require_whole_ring => k_is); (case c_require_whole_ring => k_is); (case k_require_whole_ring => k_is); (case a_rim_in => k_is); (case l_rim_in => k_is); (case c_rim_in => k_is); (case k_rim_in => k_is)
    (case a_rim_points => k_is); (case l_rim_points => k_is); (case c_rim_points => k_is); (case k_rim_points => k_is); (case a_inner_in => k_is); (case l_inner_in => k_is); (case c_inner_in => k_is); (case k_inner_in => k_is); (case a_within_points => k_is); (case l_within_points => k_is); (case c_within_points => k_is); (case k_within_points => k_is)
    (case a__law_pairs_right => k_is); (case l__law_pairs_right => k_is); (case c__law_pairs_right => k_is); (case k__law_pairs_right => k_is); (case a_law => k_is); (case l_law => k_is); (case c_law => k_is); (case k_law => k_is); (case z_abs => k_is); (case z_all => k_is); (case z_bool => k_is); (case z_c_GREAT => k_is)
    (case z_c_MOST_CORNERS => k_is); (case z_c_MOST_TIMES => k_is); (case z_enumerate => k_is); (case z_int => k_is); (case z_isinstance => k_is); (case z_len => k_is); (case z_max => k_is); (case z_min => k_is); (case z_range => k_is); (case z_sorted => k_is); (case z_sum => k_is); (case z_tuple => k_is)
    (case z_zip => k_is)
