import PyProof.Rows.All
import HandS.ForMost
import HandS.Wide
import HandS.IsInst
import HandS.Star
import HandS.Walk
import HandS.TupAny
import HandS.Zip
import HandS.Rev
import HandS.NoneIn
import HandS.Style
import KE.GoesMore
import PySem.Challenge.RW_trueroom_k20_whole_words_of_shears
set_option Elab.async false
set_option linter.all false
set_option maxRecDepth 100000
set_option maxHeartbeats 2000000
/-! The abstract layer: pure data (PyData) and numbered mutable lists over the hand layer's heaps. -/
namespace Abs
open PySem PySem.Spec PyProof.Rows L2

abbrev D := PyData
abbrev MS := List (List D)

/-! ### values that are data -/
def KTup (K : PySem.W.Frag) (a : Addr) (xs : List V) : Prop :=
  ∃ (o : Obj) (its : Array Value) (n : Nat), K.lookup a = some o ∧ o.cls = .type "tuple" ∧ o.data = .seq its n ∧ its.size ≤ sizeLine ∧ Vals xs its.toList
def KLst (K : PySem.W.Frag) (a : Addr) (xs : List V) : Prop :=
  ∃ (o : Obj) (its : Array Value) (n : Nat), K.lookup a = some o ∧ o.cls = .type "list" ∧ o.dict = none ∧ o.data = .seq its n ∧ its.size ≤ sizeLine ∧ Vals xs its.toList
def ScrAt (K : PySem.W.Frag) (as : List Addr) (H : Hp) (a : Addr) (xs : List V) : Prop := (a ∉ as ∧ Rd H a (.lst xs)) ∨ KLst K a xs
def TupAt (K : PySem.W.Frag) (as : List Addr) (H : Hp) (a : Addr) (xs : List V) : Prop := (a ∉ as ∧ Rd H a (.tup xs)) ∨ KTup K a xs
mutual
def R (K : PySem.W.Frag) (as : List Addr) (H : Hp) : V → D → Prop
  | v, .none => v = .non
  | v, .bool b => v = .bl b
  | v, .int i => v = .int i
  | v, .str x => v = .str x
  | v, .list ds => ∃ a xs, v = .ref a ∧ a ∉ as ∧ H a = some (.lst xs) ∧ RA K as H xs ds
  | v, .tuple ds => ∃ a xs, v = .ref a ∧ TupAt K as H a xs ∧ RA K as H xs ds
  | _, .dict _ => False
def RA (K : PySem.W.Frag) (as : List Addr) (H : Hp) : List V → List D → Prop
  | vs, [] => vs = []
  | vs, d :: ds => ∃ v r, vs = v :: r ∧ R K as H v d ∧ RA K as H r ds
end
/-- all but what stands at as is kept -/
def Kq (as : List Addr) (H H' : Hp) : Prop := ∀ b o, b ∉ as → H b = some o → H' b = some o
theorem Kq.refl {as : List Addr} {H : Hp} : Kq as H H := fun _ _ _ h => h
theorem Kq.trans {as : List Addr} {H H1 H2 : Hp} (a : Kq as H H1) (b : Kq as H1 H2) : Kq as H H2 := fun x o n h => b x o n (a x o n h)
theorem Kq.new {as : List Addr} {H : Hp} {p : Addr} {o : HO} (h : H p = none) : Kq as H (upd H p o) := fun a u _ e => by
  rw [upd_ne (ne_of_none e h)]; exact e
theorem Kq.mut {as : List Addr} {H : Hp} {p : Addr} {o : HO} (h : p ∈ as) : Kq as H (upd H p o) := fun a u n e => by
  rw [upd_ne (fun (z : a = p) => n (by rw [z]; exact h))]; exact e
theorem Kq.sub {as bs : List Addr} {H H' : Hp} (k : Kq as H H') (s : ∀ a ∈ as, a ∈ bs) : Kq bs H H' := fun b o n e => k b o (fun z => n (s b z)) e
theorem SqT.sp {K : PySem.W.Frag} {as : List Addr} {H : Hp} {a : Addr} {xs : List V} (h : TupAt K as H a xs) : SqT K H a xs := h.imp And.right id
theorem TupAt.of {K : PySem.W.Frag} {as : List Addr} {H : Hp} {a : Addr} {xs : List V} (n : a ∉ as) (h : H a = some (.tup xs)) : TupAt K as H a xs := .inl ⟨n, .inl h⟩

section
variable {K : PySem.W.Frag} {as bs : List Addr} {H H' : Hp}
theorem Rd.kq {a : Addr} {u : HO} (k : Kq as H H') (n : a ∉ as) (h : Rd H a u) : Rd H' a u := by
  rcases h with h | ⟨o, h⟩
  · exact .inl (k a _ n h)
  · exact .inr ⟨o, k a _ n h⟩
/-- the same value under another guard and a larger heap -/
theorem TupAt.chg {a : Addr} {xs : List V} (k : Kq as H H') (s : ∀ q ∈ bs, q ∈ as ∨ H q = none) (h : TupAt K as H a xs) : TupAt K bs H' a xs := by
  rcases h with ⟨n, h⟩ | h
  · refine .inl ⟨fun hb => ?_, Rd.kq k n h⟩
    rcases s a hb with z | z
    · exact n z
    · rcases h with h | ⟨o, h⟩ <;> (rw [z] at h; cases h)
  · exact .inr h
theorem ScrAt.chg {a : Addr} {xs : List V} (k : Kq as H H') (s : ∀ q ∈ bs, q ∈ as ∨ H q = none) (h : ScrAt K as H a xs) : ScrAt K bs H' a xs := by
  rcases h with ⟨n, h⟩ | h
  · refine .inl ⟨fun hb => ?_, Rd.kq k n h⟩
    rcases s a hb with z | z
    · exact n z
    · rcases h with h | ⟨o, h⟩ <;> (rw [z] at h; cases h)
  · exact .inr h
theorem ScrAt.sq {a : Addr} {xs : List V} (h : ScrAt K as H a xs) : SqL K H a xs := h.imp And.right id
mutual
theorem R.chg (k : Kq as H H') (s : ∀ q ∈ bs, q ∈ as ∨ H q = none) : ∀ (d : D) (v : V), R K as H v d → R K bs H' v d
  | .none, _, h => by unfold R at h ⊢; exact h
  | .bool _, _, h => by unfold R at h ⊢; exact h
  | .int _, _, h => by unfold R at h ⊢; exact h
  | .str _, _, h => by unfold R at h ⊢; exact h
  | .list ds, v, h => by
    unfold R at h ⊢
    obtain ⟨a, xs, e, n, hx, q⟩ := h
    refine ⟨a, xs, e, fun hb => ?_, k a _ n hx, RA.chg k s ds xs q⟩
    rcases s a hb with z | z
    · exact n z
    · rw [z] at hx; cases hx
  | .tuple ds, v, h => by
    unfold R at h ⊢
    obtain ⟨a, xs, e, t, q⟩ := h
    exact ⟨a, xs, e, t.chg k s, RA.chg k s ds xs q⟩
  | .dict _, _, h => by unfold R at h; exact h.elim
theorem RA.chg (k : Kq as H H') (s : ∀ q ∈ bs, q ∈ as ∨ H q = none) : ∀ (ds : List D) (vs : List V), RA K as H vs ds → RA K bs H' vs ds
  | [], _, h => by unfold RA at h ⊢; exact h
  | d :: ds, _, h => by
    unfold RA at h ⊢
    obtain ⟨v, r, e, h1, h2⟩ := h
    exact ⟨v, r, e, R.chg k s d v h1, RA.chg k s ds r h2⟩
end
theorem R.kq {v : V} {d : D} (k : Kq as H H') (h : R K as H v d) : R K as H' v d := R.chg k (fun _ q => .inl q) d v h
theorem RA.kq {vs : List V} {ds : List D} (k : Kq as H H') (h : RA K as H vs ds) : RA K as H' vs ds := RA.chg k (fun _ q => .inl q) ds vs h
theorem R.sub {v : V} {d : D} (s : ∀ a ∈ bs, a ∈ as) (h : R K as H v d) : R K bs H v d := R.chg .refl (fun q z => .inl (s q z)) d v h
theorem RA.sub {vs : List V} {ds : List D} (s : ∀ a ∈ bs, a ∈ as) (h : RA K as H vs ds) : RA K bs H vs ds := RA.chg .refl (fun q z => .inl (s q z)) ds vs h
mutual
theorem R.dp : ∀ (d : D) (v : V), R K as H v d → Dp K H v d
  | .none, _, h => by unfold R at h; subst h; exact .non
  | .bool _, _, h => by unfold R at h; subst h; exact .bl _
  | .int _, _, h => by unfold R at h; subst h; exact .int _
  | .str _, _, h => by unfold R at h; subst h; exact .str _
  | .list ds, v, h => by
    unfold R at h
    obtain ⟨a, xs, rfl, n, hx, q⟩ := h
    exact .lst (.inl (.inl hx)) (RA.dp ds xs q)
  | .tuple ds, v, h => by
    unfold R at h
    obtain ⟨a, xs, rfl, t, q⟩ := h
    exact .tup (SqT.sp t) (RA.dp ds xs q)
  | .dict _, _, h => by unfold R at h; exact h.elim
theorem RA.dp : ∀ (ds : List D) (vs : List V), RA K as H vs ds → DpAll K H vs ds
  | [], _, h => by unfold RA at h; subst h; exact .nil
  | d :: ds, _, h => by
    unfold RA at h
    obtain ⟨v, r, rfl, h1, h2⟩ := h
    exact .cons (R.dp d v h1) (RA.dp ds r h2)
end
theorem RA.length : ∀ {ds : List D} {vs : List V}, RA K as H vs ds → vs.length = ds.length
  | [], _, h => by unfold RA at h; subst h; rfl
  | d :: ds, _, h => by
    unfold RA at h
    obtain ⟨v, r, rfl, _, h2⟩ := h
    rw [List.length_cons, List.length_cons, RA.length h2]
theorem RA.nil : RA K as H [] [] := by unfold RA; rfl
theorem RA.cons {v : V} {vs : List V} {d : D} {ds : List D} (h : R K as H v d) (t : RA K as H vs ds) : RA K as H (v :: vs) (d :: ds) := by
  unfold RA; exact ⟨v, vs, rfl, h, t⟩
theorem RA.get : ∀ {ds : List D} {vs : List V} {i : Nat} {d : D}, RA K as H vs ds → ds[i]? = some d → ∃ v, vs[i]? = some v ∧ R K as H v d
  | [], _, _, _, _, e => by simp at e
  | d :: ds, _, 0, _, h, e => by
    unfold RA at h
    obtain ⟨v, r, rfl, h1, _⟩ := h
    cases (Option.some.inj e : d = _)
    exact ⟨v, rfl, h1⟩
  | d :: ds, _, i + 1, _, h, e => by
    unfold RA at h
    obtain ⟨v, r, rfl, _, h2⟩ := h
    obtain ⟨v', e', q⟩ := RA.get (i := i) h2 (by simpa using e)
    exact ⟨v', by simpa using e', q⟩
theorem RA.get' : ∀ {ds : List D} {vs : List V} {i : Nat} {v : V}, RA K as H vs ds → vs[i]? = some v → ∃ d, ds[i]? = some d ∧ R K as H v d
  | [], _, _, _, h, e => by unfold RA at h; subst h; simp at e
  | d :: ds, _, 0, _, h, e => by
    unfold RA at h
    obtain ⟨v, r, rfl, h1, _⟩ := h
    cases (Option.some.inj e : v = _)
    exact ⟨d, rfl, h1⟩
  | d :: ds, _, i + 1, _, h, e => by
    unfold RA at h
    obtain ⟨v, r, rfl, _, h2⟩ := h
    obtain ⟨v', e', q⟩ := RA.get' (i := i) h2 (by simpa using e)
    exact ⟨v', by simpa using e', q⟩
theorem RA.app : ∀ {ds es : List D} {vs us : List V}, RA K as H vs ds → RA K as H us es → RA K as H (vs ++ us) (ds ++ es)
  | [], _, _, _, h, t => by unfold RA at h; subst h; exact t
  | d :: ds, _, _, _, h, t => by
    unfold RA at h
    obtain ⟨v, r, rfl, h1, h2⟩ := h
    exact RA.cons h1 (RA.app h2 t)
theorem RA.set : ∀ {ds : List D} {vs : List V} {v : V} {d : D} (i : Nat), RA K as H vs ds → R K as H v d → RA K as H (vs.set i v) (ds.set i d)
  | [], _, _, _, _, h, _ => by unfold RA at h; subst h; exact RA.nil
  | d :: ds, _, _, _, 0, h, t => by
    unfold RA at h
    obtain ⟨v, r, rfl, h1, h2⟩ := h
    exact RA.cons t h2
  | d :: ds, _, _, _, i + 1, h, t => by
    unfold RA at h
    obtain ⟨v, r, rfl, h1, h2⟩ := h
    exact RA.cons h1 (RA.set i h2 t)
theorem RA.drop : ∀ {ds : List D} {vs : List V} (n : Nat), RA K as H vs ds → RA K as H (vs.drop n) (ds.drop n)
  | _, _, 0, h => h
  | [], _, _ + 1, h => by unfold RA at h; subst h; exact RA.nil
  | d :: ds, _, n + 1, h => by
    unfold RA at h
    obtain ⟨v, r, rfl, _, h2⟩ := h
    exact RA.drop n h2
theorem RA.take : ∀ {ds : List D} {vs : List V} (n : Nat), RA K as H vs ds → RA K as H (vs.take n) (ds.take n)
  | _, _, 0, h => RA.nil
  | [], _, _ + 1, h => by unfold RA at h; subst h; exact RA.nil
  | d :: ds, _, n + 1, h => by
    unfold RA at h
    obtain ⟨v, r, rfl, h1, h2⟩ := h
    exact RA.cons h1 (RA.take n h2)
theorem RA.rev : ∀ {ds : List D} {vs : List V}, RA K as H vs ds → RA K as H vs.reverse ds.reverse
  | [], _, h => by unfold RA at h; subst h; exact RA.nil
  | d :: ds, _, h => by
    unfold RA at h
    obtain ⟨v, r, rfl, h1, h2⟩ := h
    rw [List.reverse_cons, List.reverse_cons]
    exact RA.app (RA.rev h2) (RA.cons h1 RA.nil)
theorem RA.ints : ∀ {ns : List Int} {vs : List V}, RA K as H vs (ns.map .int) → vs = ns.map .int
  | [], _, h => by unfold RA at h; exact h
  | n :: ns, _, h => by
    unfold RA at h
    obtain ⟨v, r, rfl, h1, h2⟩ := h
    unfold R at h1
    rw [h1, RA.ints h2]; rfl
theorem RA.bools : ∀ {ns : List Bool} {vs : List V}, RA K as H vs (ns.map .bool) → vs = ns.map .bl
  | [], _, h => by unfold RA at h; exact h
  | n :: ns, _, h => by
    unfold RA at h
    obtain ⟨v, r, rfl, h1, h2⟩ := h
    unfold R at h1
    rw [h1, RA.bools h2]; rfl
end

/-! ### the mutable lists, the slots, results -/
def SR (K : PySem.W.Frag) (as : List Addr) (H : Hp) (ms : MS) : Prop :=
  as.Nodup ∧ as.length = ms.length ∧ ∀ (k : Nat) (a : Addr) (ds : List D), as[k]? = some a → ms[k]? = some ds → ∃ xs, H a = some (.lst xs) ∧ RA K as H xs ds
inductive Sl where
  | un | dat (d : D) | mu (k : Nat) | scr (ns : List Int)
def SlOk (K : PySem.W.Frag) (as : List Addr) (H : Hp) : Option V → Sl → Prop
  | _, .un => True
  | o, .dat d => ∃ v, o = some v ∧ R K as H v d
  | o, .mu k => ∃ a, o = some (.ref a) ∧ as[k]? = some a
  | o, .scr ns => ∃ a, o = some (.ref a) ∧ ScrAt K as H a (ns.map V.int)
abbrev Env' := List Sl
def EnvOk (K : PySem.W.Frag) (as : List Addr) (H : Hp) (σ : L2.St) (ρ : Env') : Prop := σ.length = ρ.length ∧ ∀ (i : Nat) (s : Sl) (o : Option V), ρ[i]? = some s → σ[i]? = some o → SlOk K as H o s
inductive Rs where
  | dat (d : D) | mu (k : Nat) | new (ds : List D) | scr (ns : List Int) | ty (T : String)
/-- H0: the heap ahead -/
def RsOk (K : PySem.W.Frag) (as : List Addr) (H0 H : Hp) (v : V) : Rs → Prop
  | .dat d => R K as H v d
  | .mu k => ∃ a, v = .ref a ∧ as[k]? = some a
  | .new ds => ∃ p xs, v = .ref p ∧ H0 p = none ∧ p ∉ as ∧ H p = some (.lst xs) ∧ RA K (p :: as) H xs ds
  | .scr ns => ∃ a, v = .ref a ∧ ScrAt K as H a (ns.map V.int)
  | .ty T => v = .ty T
section
variable {K : PySem.W.Frag} {as : List Addr} {H H0 H1 H' : Hp} {ms : MS} {ρ : Env'} {σ : L2.St}
theorem SR.some_ (h : SR K as H ms) {a : Addr} (ha : a ∈ as) : ∃ (k : Nat) (xs : List V) (ds : List D), as[k]? = some a ∧ ms[k]? = some ds ∧ H a = some (.lst xs) ∧ RA K as H xs ds := by
  obtain ⟨k, hk⟩ := List.getElem?_of_mem ha
  obtain ⟨hl, _⟩ := List.getElem?_eq_some_iff.mp hk
  have hm : k < ms.length := by rw [← h.2.1]; exact hl
  obtain ⟨xs, q1, q2⟩ := h.2.2 k a ms[k] hk (List.getElem?_eq_getElem hm)
  exact ⟨k, xs, ms[k], hk, List.getElem?_eq_getElem hm, q1, q2⟩
theorem SR.notin (h : SR K as H ms) {p : Addr} (hp : H p = none) : p ∉ as := fun z => by
  obtain ⟨_, _, _, _, _, e, _⟩ := h.some_ z
  rw [hp] at e; cases e
theorem SlOk.kq {o : Option V} {s : Sl} (k : Kq as H H') (h : SlOk K as H o s) : SlOk K as H' o s := by
  cases s with
  | un => trivial
  | dat d => obtain ⟨v, e, q⟩ := h; exact ⟨v, e, q.kq k⟩
  | mu k => exact h
  | scr ns => obtain ⟨a, e, q⟩ := h; exact ⟨a, e, q.chg k fun _ z => .inl z⟩
theorem EnvOk.kq (k : Kq as H H') (h : EnvOk K as H σ ρ) : EnvOk K as H' σ ρ := ⟨h.1, fun i s o e1 e2 => (h.2 i s o e1 e2).kq k⟩
theorem RsOk.kq {v : V} {r : Rs} (k : Kq as H H') (h : RsOk K as H0 H v r) : RsOk K as H0 H' v r := by
  cases r with
  | dat d => exact R.kq k h
  | mu k => exact h
  | new ds =>
    obtain ⟨p, xs, e, n, np, hp, q⟩ := h
    exact ⟨p, xs, e, n, np, k p _ np hp, RA.kq (k.sub fun a z => List.mem_cons_of_mem _ z) q⟩
  | scr ns => obtain ⟨a, e, q⟩ := h; exact ⟨a, e, q.chg k fun _ z => .inl z⟩
  | ty T => exact h
theorem fresh_back {p : Addr} (s : SR K as H1 ms) (k : Kq as H H1) (h : H1 p = none) : H p = none := by
  cases e : H p with
  | none => rfl
  | some o =>
    rw [k p o (s.notin h) e] at h
    cases h
theorem RsOk.back {v : V} {r : Rs} (s : SR K as H1 ms) (k : Kq as H H1) (h : RsOk K as H1 H' v r) : RsOk K as H H' v r := by
  cases r with
  | dat d => exact h
  | mu k => exact h
  | new ds =>
    obtain ⟨p, xs, e, n, q⟩ := h
    exact ⟨p, xs, e, fresh_back s k n, q⟩
  | scr ns => exact h
  | ty T => exact h
theorem rInt {i : Int} : RsOk K as H0 H (.int i) (.dat (.int i)) := by unfold RsOk R; rfl
theorem rBool {b : Bool} : RsOk K as H0 H (.bl b) (.dat (.bool b)) := by unfold RsOk R; rfl
theorem RsOk.int {v : V} {i : Int} (h : RsOk K as H0 H v (.dat (.int i))) : v = .int i := by unfold RsOk R at h; exact h
theorem RsOk.bool {v : V} {b : Bool} (h : RsOk K as H0 H v (.dat (.bool b))) : v = .bl b := by unfold RsOk R at h; exact h
/-- what a result is, as data -/
def res (ms : MS) : Rs → Option D
  | .dat d => some d
  | .mu k => (ms[k]?).map .list
  | .new ds => some (.list ds)
  | .scr ns => some (.list (ns.map .int))
  | .ty _ => none
end
end Abs
namespace Abs
open PySem PySem.Spec PyProof.Rows L2

/-! ### a family of contexts -/
structure Sx where
  N : List Str
  sc : Scope
  K : PySem.W.Frag
  mg : Str → Option Value
  P : Program
  w : World
  base : Heap
  k : Nat
  cl : Str → Bool
  n0 : Nat
  tch : Nat → Bool
/-- what may be changed: what the body itself opened, and what it was given for it -/
def Sx.T (S : Sx) (as : List Addr) : Addr → Prop := fun b => ∃ j : Nat, as[j]? = some b ∧ (S.n0 ≤ j ∨ S.tch j = true)
def Kp (T : Addr → Prop) (H H' : Hp) : Prop := ∀ b o, ¬ T b → H b = some o → H' b = some o
theorem Kp.refl {T : Addr → Prop} {H : Hp} : Kp T H H := fun _ _ _ h => h
theorem Kp.trans {T : Addr → Prop} {H H1 H2 : Hp} (a : Kp T H H1) (b : Kp T H1 H2) : Kp T H H2 := fun x o n h => b x o n (a x o n h)
theorem Kp.new {T : Addr → Prop} {H : Hp} {p : Addr} {o : HO} (h : H p = none) : Kp T H (upd H p o) := fun a u _ e => by
  rw [upd_ne (ne_of_none e h)]; exact e
theorem Kp.mut {T : Addr → Prop} {H : Hp} {p : Addr} {o : HO} (h : T p) : Kp T H (upd H p o) := fun a u n e => by
  rw [upd_ne (fun (z : a = p) => n (by rw [z]; exact h))]; exact e
theorem Kp.q {S : Sx} {as : List Addr} {H H' : Hp} (k : Kp (S.T as) H H') : Kq as H H' := fun b o n e => k b o (fun ⟨_, z, _⟩ => n (List.mem_of_getElem? z)) e
section
variable {S : Sx} {as : List Addr} {H H0 H1 H' : Hp} {K : PySem.W.Frag} {ms : MS} {ρ : Env'} {σ : L2.St}
theorem Kp.f {T : Addr → Prop} (k : Kp (fun _ => False) H H') : Kp T H H' := fun b o _ e => k b o (fun z => z) e
theorem R.kp {v : V} {d : D} (k : Kp (S.T as) H H') (h : R K as H v d) : R K as H' v d := R.kq k.q h
theorem RA.kp {v : List V} {d : List D} (k : Kp (S.T as) H H') (h : RA K as H v d) : RA K as H' v d := RA.kq k.q h
theorem SlOk.kp {o : Option V} {s : Sl} (k : Kp (S.T as) H H') (h : SlOk K as H o s) : SlOk K as H' o s := SlOk.kq k.q h
theorem EnvOk.kp (k : Kp (S.T as) H H') (h : EnvOk K as H σ ρ) : EnvOk K as H' σ ρ := EnvOk.kq k.q h
theorem RsOk.kp {v : V} {r : Rs} (k : Kp (S.T as) H H') (h : RsOk K as H0 H v r) : RsOk K as H0 H' v r := RsOk.kq k.q h
theorem fresh_back' {p : Addr} (s : SR K as H1 ms) (k : Kp (S.T as) H H1) (h : H1 p = none) : H p = none := fresh_back s k.q h
theorem RsOk.back' {v : V} {r : Rs} (s : SR K as H1 ms) (k : Kp (S.T as) H H1) (h : RsOk K as H1 H' v r) : RsOk K as H H' v r := RsOk.back s k.q h
end
structure InS (S : Sx) (X : Cx) : Prop where
  n : X.N = S.N
  sc : X.env.scope = S.sc
  k : X.K = S.K
  mg : X.mg = S.mg
  p : X.prog = S.P
  w : X.w = S.w
  base : X.base = S.base
  calm : X.calm = true
  room : Room S.k X.A
  fn : ∀ x, S.cl x = true → X.fn x = true
  xe : X.xe = fun _ _ => False
theorem InS.gl {S : Sx} {X : Cx} (h : InS S X) {x : Str} (g : S.sc.names.lookup x = some .globalImplicit) : Gl X x := by
  show X.env.scope.names.lookup x = _
  rw [h.sc]; exact g
theorem InS.vis {S : Sx} {X : Cx} (h : InS S X) {x : Str} (g : Vis S.sc x) : Vis X.env.scope x := by rw [h.sc]; exact g
theorem InS.loc {S : Sx} {X : Cx} (h : InS S X) {x : Str} (g : Loc S.sc x) : Loc X.env.scope x := by rw [h.sc]; exact g
theorem InS.hf {S : Sx} {X : Cx} (h : InS S X) {x : Str} (g : S.cl x = true ∨ S.sc.names.lookup x = some .local) : X.fn x = true ∨ X.env.scope.names.lookup x = some .local := by
  rcases g with g | g
  · left; exact h.fn x g
  · right; rw [h.sc]; exact g
theorem InS.hu {S : Sx} {X : Cx} (h : InS S X) : X.A.units + 190 < cLine := by have := h.room.un; omega

/-! ### the readings, once for all -/
def cE (S : Sx) (e : Expr) : TE := fun σ H Q => ∃ te : TE, (∀ X, InS S X → PE X e te) ∧ te σ H Q
def cT (S : Sx) (e : Expr) : TT := fun σ H Q => ∃ te : TT, (∀ X, InS S X → PT X e te) ∧ te σ H Q
def cA (S : Sx) (es : List Expr) : TA := fun σ H Q => ∃ te : TA, (∀ X, InS S X → PA X es te) ∧ te σ H Q
def cS (S : Sx) (st : Stmt) : TS := fun D σ H => ∃ ts : TS, (∀ X, InS S X → PS X st ts) ∧ ts D σ H
def cSs (S : Sx) (st : List Stmt) : TS := fun D σ H => ∃ ts : TS, (∀ X, InS S X → PSs X st ts) ∧ ts D σ H
section
variable {S : Sx} {X : Cx}
theorem pe_c (h : InS S X) (e : Expr) : PE X e (cE S e) := ⟨fun pins s σ H Q I ⟨te, p, q⟩ => (p X h).run pins s σ H Q I q⟩
theorem pt_c (h : InS S X) (e : Expr) : PT X e (cT S e) := ⟨fun pins s σ H Q I ⟨te, p, q⟩ => (p X h).run pins s σ H Q I q⟩
theorem pa_c (h : InS S X) (e : List Expr) : PA X e (cA S e) := ⟨fun pos pins s σ H Q I ⟨te, p, q⟩ => (p X h).run pos pins s σ H Q I q⟩
theorem ps_c (h : InS S X) (e : Stmt) : PS X e (cS S e) := ⟨fun pins s σ H Q I ⟨te, p, q⟩ => (p X h).run pins s σ H Q I q⟩
theorem pss_c (h : InS S X) (e : List Stmt) : PSs X e (cSs S e) := ⟨fun pins s σ H Q I ⟨te, p, q⟩ => (p X h).run pins s σ H Q I q⟩
end

/-! ### what evaluates to what -/
def EVt (S : Sx) (te : TE) (ρ : Env') (ms : MS) (r : Rs) (ms' : MS) : Prop := ∀ (as : List Addr) (σ : L2.St) (H : Hp) (Q : VK), SR S.K as H ms → EnvOk S.K as H σ ρ →
  (∀ v H', Kp (S.T as) H H' → SR S.K as H' ms' → RsOk S.K as H H' v r → Q v H') → te σ H Q
def EVb (S : Sx) (te : TT) (ρ : Env') (ms : MS) (b : Bool) (ms' : MS) : Prop := ∀ (as : List Addr) (σ : L2.St) (H : Hp) (Q : Bool → Hp → Prop), SR S.K as H ms → EnvOk S.K as H σ ρ →
  (∀ H', Kp (S.T as) H H' → SR S.K as H' ms' → Q b H') → te σ H Q
/-- values by their results -/
def RsA (K : PySem.W.Frag) (as : List Addr) (H0 H : Hp) : List V → List Rs → Prop
  | vs, [] => vs = []
  | vs, r :: rs => ∃ v u, vs = v :: u ∧ RsOk K as H0 H v r ∧ RsA K as H0 H u rs
def EVa (S : Sx) (te : TA) (ρ : Env') (ms : MS) (rs : List Rs) (ms' : MS) : Prop := ∀ (as : List Addr) (σ : L2.St) (H : Hp) (Q : List V → Hp → Prop), SR S.K as H ms → EnvOk S.K as H σ ρ →
  (∀ vs H', Kp (S.T as) H H' → SR S.K as H' ms' → RsA S.K as H H' vs rs → Q vs H') → te σ H Q
def EE (S : Sx) (e : Expr) (ρ : Env') (ms : MS) (r : Rs) (ms' : MS) : Prop := EVt S (cE S e) ρ ms r ms'
def ET (S : Sx) (e : Expr) (ρ : Env') (ms : MS) (b : Bool) (ms' : MS) : Prop := EVb S (cT S e) ρ ms b ms'
def EA (S : Sx) (es : List Expr) (ρ : Env') (ms : MS) (rs : List Rs) (ms' : MS) : Prop := EVa S (cA S es) ρ ms rs ms'
section
variable {S : Sx} {e : Expr} {es : List Expr} {ρ : Env'} {ms ms' ms1 ms2 : MS} {r r1 r2 r3 : Rs}
theorem EE.of {te : TE} (p : ∀ X, InS S X → PE X e te) (h : EVt S te ρ ms r ms') : EE S e ρ ms r ms' := fun as σ H Q s en k => ⟨te, p, h as σ H Q s en k⟩
theorem ET.of {te : TT} {b : Bool} (p : ∀ X, InS S X → PT X e te) (h : EVb S te ρ ms b ms') : ET S e ρ ms b ms' := fun as σ H Q s en k => ⟨te, p, h as σ H Q s en k⟩
theorem EA.of {te : TA} {rs : List Rs} (p : ∀ X, InS S X → PA X es te) (h : EVa S te ρ ms rs ms') : EA S es ρ ms rs ms' := fun as σ H Q s en k => ⟨te, p, h as σ H Q s en k⟩

/-! ### names, constants -/
theorem ee_var (i : Nat) {x : Str} {pos : Pos} {d : D} (hN : S.N[i]? = some x) (hv : Vis S.sc x) (h : ρ[i]? = some (.dat d)) (hd : (x == ("__debug__" : Str)) = false := by decide) (hcd : (x == ("__classdict__" : Str)) = false := by decide) :
    EE S (.Name x pos) ρ ms (.dat d) ms :=
  .of (te := tVar i) (fun X hX => pe_var (by rw [hX.n]; exact hN) (hX.vis hv) hd hcd) fun as σ H Q s en k => by
    have hl : i < σ.length := by rw [en.1]; exact (List.getElem?_eq_some_iff.mp h).1
    obtain ⟨v, e, q⟩ := en.2 i _ _ h (List.getElem?_eq_getElem hl)
    exact ⟨v, by rw [List.getElem?_eq_getElem hl, e], k v H .refl s q⟩
theorem ee_mu (i : Nat) {x : Str} {pos : Pos} {j : Nat} (hN : S.N[i]? = some x) (hv : Vis S.sc x) (h : ρ[i]? = some (.mu j)) (hd : (x == ("__debug__" : Str)) = false := by decide) (hcd : (x == ("__classdict__" : Str)) = false := by decide) :
    EE S (.Name x pos) ρ ms (.mu j) ms :=
  .of (te := tVar i) (fun X hX => pe_var (by rw [hX.n]; exact hN) (hX.vis hv) hd hcd) fun as σ H Q s en k => by
    have hl : i < σ.length := by rw [en.1]; exact (List.getElem?_eq_some_iff.mp h).1
    obtain ⟨a, e, q⟩ := en.2 i _ _ h (List.getElem?_eq_getElem hl)
    exact ⟨.ref a, by rw [List.getElem?_eq_getElem hl, e], k _ H .refl s ⟨a, rfl, q⟩⟩
theorem ee_scr (i : Nat) {x : Str} {pos : Pos} {ns : List Int} (hN : S.N[i]? = some x) (hv : Vis S.sc x) (h : ρ[i]? = some (.scr ns)) (hd : (x == ("__debug__" : Str)) = false := by decide) (hcd : (x == ("__classdict__" : Str)) = false := by decide) :
    EE S (.Name x pos) ρ ms (.scr ns) ms :=
  .of (te := tVar i) (fun X hX => pe_var (by rw [hX.n]; exact hN) (hX.vis hv) hd hcd) fun as σ H Q s en k => by
    have hl : i < σ.length := by rw [en.1]; exact (List.getElem?_eq_some_iff.mp h).1
    obtain ⟨a, e, q⟩ := en.2 i _ _ h (List.getElem?_eq_getElem hl)
    exact ⟨.ref a, by rw [List.getElem?_eq_getElem hl, e], k _ H .refl s ⟨a, rfl, q⟩⟩
theorem evt_c {v : V} {d : D} (h : ∀ as H, R S.K as H v d) : EVt S (tC v) ρ ms (.dat d) ms := fun as σ H Q s en k => k v H .refl s (h as H)
theorem ee_int {i : Int} {j pos} : EE S (.Constant (.int i) j pos) ρ ms (.dat (.int i)) ms := .of (fun _ _ => pe_int) (evt_c fun _ _ => by unfold R; rfl)
theorem ee_bool {b : Bool} {j pos} : EE S (.Constant (.bool b) j pos) ρ ms (.dat (.bool b)) ms := .of (fun _ _ => pe_bl) (evt_c fun _ _ => by unfold R; rfl)
theorem ee_none {j pos} : EE S (.Constant .none j pos) ρ ms (.dat .none) ms := .of (fun _ _ => pe_non) (evt_c fun _ _ => by unfold R; rfl)
theorem ee_str {x : Str} {j pos} : EE S (.Constant (.str x) j pos) ρ ms (.dat (.str x)) ms := .of (fun _ _ => pe_str) (evt_c fun _ _ => by unfold R; rfl)
theorem ee_gint {x : Str} {i : Int} {pos : Pos} (hm : ∃ t, S.mg x = some (.int i t)) (hg : S.sc.names.lookup x = some .globalImplicit) (hd : (x == ("__debug__" : Str)) = false := by decide) : EE S (.Name x pos) ρ ms (.dat (.int i)) ms := by
  obtain ⟨t, hm⟩ := hm
  exact .of (fun X hX => pe_glob (hX.gl hg) (by rw [hX.mg]; exact hm) (v := .int i) ⟨t, rfl⟩ hd) (evt_c fun _ _ => by unfold R; rfl)
theorem ee_gstr {x z : Str} {pos : Pos} (hm : ∃ t, S.mg x = some (.str z t)) (hg : S.sc.names.lookup x = some .globalImplicit) (hd : (x == ("__debug__" : Str)) = false := by decide) : EE S (.Name x pos) ρ ms (.dat (.str z)) ms := by
  obtain ⟨t, hm⟩ := hm
  exact .of (fun X hX => pe_glob (hX.gl hg) (by rw [hX.mg]; exact hm) (v := .str z) ⟨t, rfl⟩ hd) (evt_c fun _ _ => by unfold R; rfl)

/-! ### operators -/
/-- a two-place reading over results -/
def Op2 (S : Sx) (r : R2) (r1 r2 : Rs) (ms : MS) (r3 : Rs) : Prop := ∀ (as : List Addr) (H0 H : Hp) (x y : V), SR S.K as H ms → RsOk S.K as H0 H x r1 → RsOk S.K as H0 H y r2 →
  ∀ Q : VK, (∀ v H', Kp (fun _ => False) H H' → SR S.K as H' ms → RsOk S.K as H H' v r3 → Q v H') → r x y H Q
theorem evt_op {r : R2} {ta tb : TE} (ha : EVt S ta ρ ms r1 ms1) (hb : EVt S tb ρ ms1 r2 ms2) (h : Op2 S r r1 r2 ms2 r3) : EVt S (tOp r ta tb) ρ ms r3 ms2 := fun as σ H Q s en k =>
  ha as σ H _ s en fun x H1 k1 s1 q1 => hb as σ H1 _ s1 (en.kp k1) fun y H2 k2 s2 q2 =>
    h as H H2 x y s2 (q1.kp k2) (q2.back' s1 k1) Q fun v H3 k3 s3 q3 => k v H3 ((k1.trans k2).trans k3.f) s3 (q3.back' s2 (k1.trans k2))
theorem ee_op {r : R2} {a b : Expr} {op : Operator} {pos : Pos} (ho : ∀ X, InS S X → OpR X (binaryOp op) r) (h : Op2 S r r1 r2 ms2 r3) (ha : EE S a ρ ms r1 ms1) (hb : EE S b ρ ms1 r2 ms2) : EE S (.BinOp a op b pos) ρ ms r3 ms2 :=
  .of (fun X hX => pe_op (ho X hX) (pe_c hX a) (pe_c hX b)) (evt_op ha hb h)
theorem ee_cmp {r : R2} {a b : Expr} {op : CmpOp} {pos : Pos} (ho : ∀ X, InS S X → OpR X (compareOp op) r) (hm : behindInMarks op b = false) (h : Op2 S r r1 r2 ms2 r3) (ha : EE S a ρ ms r1 ms1) (hb : EE S b ρ ms1 r2 ms2) : EE S (.Compare a [op] [b] pos) ρ ms r3 ms2 :=
  .of (fun X hX => pe_cmpR (ho X hX) (pe_c hX a) (pe_c hX b) hm) (evt_op ha hb h)
theorem et_cmp {r : R2} {a b : Expr} {op : CmpOp} {pos : Pos} {c : Bool} (ho : ∀ X, InS S X → OpR X (compareOp op) r) (hm : behindInMarks op b = false) (h : Op2 S r r1 r2 ms2 (.dat (.bool c))) (ha : EE S a ρ ms r1 ms1) (hb : EE S b ρ ms1 r2 ms2) : ET S (.Compare a [op] [b] pos) ρ ms c ms2 :=
  .of (fun X hX => pt_cmpR (ho X hX) (pe_c hX a) (pe_c hX b) hm) fun as σ H Q s en k => evt_op ha hb h as σ H _ s en fun v H' k1 s1 q => by
    unfold RsOk R at q
    exact ⟨c, q, k H' k1 s1⟩
theorem op2_I0 {g : Int → Int → Int} {i j : Int} : Op2 S (rI0 fun i j => .int (g i j)) (.dat (.int i)) (.dat (.int j)) ms (.dat (.int (g i j))) := fun as H0 H x y s h1 h2 Q k => by
  unfold RsOk R at h1 h2
  exact ⟨i, j, h1, h2, k _ H .refl s (by unfold RsOk R; rfl)⟩
theorem op2_I {C : Int → Int → Prop} {g : Int → Int → Int} {i j : Int} (hc : C i j) : Op2 S (rI C fun i j => .int (g i j)) (.dat (.int i)) (.dat (.int j)) ms (.dat (.int (g i j))) := fun as H0 H x y s h1 h2 Q k => by
  unfold RsOk R at h1 h2
  exact ⟨i, j, h1, h2, hc, k _ H .refl s (by unfold RsOk R; rfl)⟩
theorem op2_B0 {g : Int → Int → Bool} {i j : Int} : Op2 S (rI0 fun i j => .bl (g i j)) (.dat (.int i)) (.dat (.int j)) ms (.dat (.bool (g i j))) := fun as H0 H x y s h1 h2 Q k => by
  unfold RsOk R at h1 h2
  exact ⟨i, j, h1, h2, k _ H .refl s (by unfold RsOk R; rfl)⟩
variable {a b : Expr} {pos : Pos} {i j : Int}
theorem ee_add (ha : EE S a ρ ms (.dat (.int i)) ms1) (hb : EE S b ρ ms1 (.dat (.int j)) ms2) : EE S (.BinOp a .Add b pos) ρ ms (.dat (.int (i + j))) ms2 := ee_op (fun _ _ => op_add) op2_I0 ha hb
theorem ee_sub (ha : EE S a ρ ms (.dat (.int i)) ms1) (hb : EE S b ρ ms1 (.dat (.int j)) ms2) : EE S (.BinOp a .Sub b pos) ρ ms (.dat (.int (i - j))) ms2 := ee_op (fun _ _ => op_sub) op2_I0 ha hb
theorem ee_mul (ha : EE S a ρ ms (.dat (.int i)) ms1) (hb : EE S b ρ ms1 (.dat (.int j)) ms2) (hc : CMulW i j) : EE S (.BinOp a .Mult b pos) ρ ms (.dat (.int (i * j))) ms2 := ee_op (fun _ _ => op_mulW) (op2_I hc) ha hb
theorem ee_div (ha : EE S a ρ ms (.dat (.int i)) ms1) (hb : EE S b ρ ms1 (.dat (.int j)) ms2) (hc : CDivW i j) : EE S (.BinOp a .FloorDiv b pos) ρ ms (.dat (.int (i / j))) ms2 := ee_op (fun _ _ => op_fdivW) (op2_I hc) ha hb
theorem ee_mod (ha : EE S a ρ ms (.dat (.int i)) ms1) (hb : EE S b ρ ms1 (.dat (.int j)) ms2) (hc : 0 < j) : EE S (.BinOp a .Mod b pos) ρ ms (.dat (.int (i % j))) ms2 := ee_op (fun _ _ => op_mod) (op2_I (C := fun _ j => 0 < j) hc) ha hb
theorem ee_pow (ha : EE S a ρ ms (.dat (.int i)) ms1) (hb : EE S b ρ ms1 (.dat (.int j)) ms2) (hc : CPow i j) : EE S (.BinOp a .Pow b pos) ρ ms (.dat (.int (i ^ j.toNat))) ms2 := ee_op (fun _ _ => op_pow) (op2_I hc) ha hb
theorem ee_lt (hm : behindInMarks .Lt b = false) (ha : EE S a ρ ms (.dat (.int i)) ms1) (hb : EE S b ρ ms1 (.dat (.int j)) ms2) : EE S (.Compare a [.Lt] [b] pos) ρ ms (.dat (.bool (decide (i < j)))) ms2 := ee_cmp (fun _ _ => op_lt) hm op2_B0 ha hb
theorem ee_le (hm : behindInMarks .LtE b = false) (ha : EE S a ρ ms (.dat (.int i)) ms1) (hb : EE S b ρ ms1 (.dat (.int j)) ms2) : EE S (.Compare a [.LtE] [b] pos) ρ ms (.dat (.bool (decide (i ≤ j)))) ms2 := ee_cmp (fun _ _ => op_le) hm op2_B0 ha hb
theorem ee_gt (hm : behindInMarks .Gt b = false) (ha : EE S a ρ ms (.dat (.int i)) ms1) (hb : EE S b ρ ms1 (.dat (.int j)) ms2) : EE S (.Compare a [.Gt] [b] pos) ρ ms (.dat (.bool (decide (j < i)))) ms2 := ee_cmp (fun _ _ => op_gt) hm op2_B0 ha hb
theorem ee_ge (hm : behindInMarks .GtE b = false) (ha : EE S a ρ ms (.dat (.int i)) ms1) (hb : EE S b ρ ms1 (.dat (.int j)) ms2) : EE S (.Compare a [.GtE] [b] pos) ρ ms (.dat (.bool (decide (j ≤ i)))) ms2 := ee_cmp (fun _ _ => op_ge) hm op2_B0 ha hb
theorem et_lt (hm : behindInMarks .Lt b = false) (ha : EE S a ρ ms (.dat (.int i)) ms1) (hb : EE S b ρ ms1 (.dat (.int j)) ms2) : ET S (.Compare a [.Lt] [b] pos) ρ ms (decide (i < j)) ms2 := et_cmp (fun _ _ => op_lt) hm op2_B0 ha hb
theorem et_le (hm : behindInMarks .LtE b = false) (ha : EE S a ρ ms (.dat (.int i)) ms1) (hb : EE S b ρ ms1 (.dat (.int j)) ms2) : ET S (.Compare a [.LtE] [b] pos) ρ ms (decide (i ≤ j)) ms2 := et_cmp (fun _ _ => op_le) hm op2_B0 ha hb
theorem et_gt (hm : behindInMarks .Gt b = false) (ha : EE S a ρ ms (.dat (.int i)) ms1) (hb : EE S b ρ ms1 (.dat (.int j)) ms2) : ET S (.Compare a [.Gt] [b] pos) ρ ms (decide (j < i)) ms2 := et_cmp (fun _ _ => op_gt) hm op2_B0 ha hb
theorem et_ge (hm : behindInMarks .GtE b = false) (ha : EE S a ρ ms (.dat (.int i)) ms1) (hb : EE S b ρ ms1 (.dat (.int j)) ms2) : ET S (.Compare a [.GtE] [b] pos) ρ ms (decide (j ≤ i)) ms2 := et_cmp (fun _ _ => op_ge) hm op2_B0 ha hb
/-- == of ints: as a scalar -/
theorem op2_eqI {i j : Int} : Op2 S rEq (.dat (.int i)) (.dat (.int j)) ms (.dat (.bool (decide (i = j)))) := fun as H0 H x y s h1 h2 Q k => by
  unfold RsOk R at h1 h2
  subst h1 h2
  exact ⟨rfl, k _ H .refl s (by unfold RsOk R; simp)⟩
theorem op2_neI {i j : Int} : Op2 S rNe (.dat (.int i)) (.dat (.int j)) ms (.dat (.bool (decide (i ≠ j)))) := fun as H0 H x y s h1 h2 Q k => by
  unfold RsOk R at h1 h2
  subst h1 h2
  exact ⟨rfl, k _ H .refl s (by unfold RsOk R; simp)⟩
theorem ee_eqI (hm : behindInMarks .Eq b = false) (ha : EE S a ρ ms (.dat (.int i)) ms1) (hb : EE S b ρ ms1 (.dat (.int j)) ms2) : EE S (.Compare a [.Eq] [b] pos) ρ ms (.dat (.bool (decide (i = j)))) ms2 := ee_cmp (fun _ _ => op_eq) hm op2_eqI ha hb
theorem et_eqI (hm : behindInMarks .Eq b = false) (ha : EE S a ρ ms (.dat (.int i)) ms1) (hb : EE S b ρ ms1 (.dat (.int j)) ms2) : ET S (.Compare a [.Eq] [b] pos) ρ ms (decide (i = j)) ms2 := et_cmp (fun _ _ => op_eq) hm op2_eqI ha hb
theorem ee_neI (hm : behindInMarks .NotEq b = false) (ha : EE S a ρ ms (.dat (.int i)) ms1) (hb : EE S b ρ ms1 (.dat (.int j)) ms2) : EE S (.Compare a [.NotEq] [b] pos) ρ ms (.dat (.bool (decide (i ≠ j)))) ms2 := ee_cmp (fun _ _ => op_ne) hm op2_neI ha hb
theorem et_neI (hm : behindInMarks .NotEq b = false) (ha : EE S a ρ ms (.dat (.int i)) ms1) (hb : EE S b ρ ms1 (.dat (.int j)) ms2) : ET S (.Compare a [.NotEq] [b] pos) ρ ms (decide (i ≠ j)) ms2 := et_cmp (fun _ _ => op_ne) hm op2_neI ha hb
/-- == of data of any depth -/
theorem RsOk.dp {K : PySem.W.Frag} {as : List Addr} {H0 H : Hp} {v : V} {r : Rs} {d : D} (s : SR K as H ms) (h : RsOk K as H0 H v r) (e : res ms r = some d) : Dp K H v d := by
  cases r with
  | dat d' => cases e; exact R.dp _ _ h
  | mu k =>
    obtain ⟨p, rfl, hk⟩ := h
    have e : (ms[k]?).map PyData.list = some d := e
    cases hm : ms[k]? with
    | none => rw [hm] at e; cases e
    | some ds =>
      rw [hm] at e
      cases e
      obtain ⟨xs, q1, q2⟩ := s.2.2 k p ds hk hm
      exact .lst (.inl (.inl q1)) (RA.dp _ _ q2)
  | new ds =>
    cases e
    obtain ⟨p, xs, rfl, n, np, q1, q2⟩ := h
    exact .lst (.inl (.inl q1)) (RA.dp _ _ q2)
  | scr ns =>
    cases e
    obtain ⟨p, rfl, q⟩ := h
    refine .lst q.sq ?_
    clear q
    induction ns with
    | nil => exact .nil
    | cons n ns ih => exact .cons (.int _) ih
  | ty T => cases e
theorem op2_eqD {d e : D} (h1 : res ms r1 = some d) (h2 : res ms r2 = some e) (s1 : SeqAt.shaped d = true) (s2 : SeqAt.shaped e = true) : Op2 S (rEqD S.K) r1 r2 ms (.dat (.bool (PyData.eqv d e))) := fun as H0 H x y s q1 q2 Q k =>
  ⟨d, e, q1.dp s h1, q2.dp s h2, s1, s2, k _ H .refl s (by unfold RsOk R; rfl)⟩
theorem op2_neD {d e : D} (h1 : res ms r1 = some d) (h2 : res ms r2 = some e) (s1 : SeqAt.shaped d = true) (s2 : SeqAt.shaped e = true) : Op2 S (rNeD S.K) r1 r2 ms (.dat (.bool (!PyData.eqv d e))) := fun as H0 H x y s q1 q2 Q k =>
  ⟨d, e, q1.dp s h1, q2.dp s h2, s1, s2, k _ H .refl s (by unfold RsOk R; rfl)⟩
theorem o_eqD {X : Cx} (hX : InS S X) : OpR X (compareOp .Eq) (rEqD S.K) := by
  have h := op_eqD (X := X) (by have := hX.hu; omega)
  rw [hX.k] at h; exact h
theorem o_neD {X : Cx} (hX : InS S X) : OpR X (compareOp .NotEq) (rNeD S.K) := by
  have h := op_neD (X := X) (by have := hX.hu; omega)
  rw [hX.k] at h; exact h
variable {d d' : D}
theorem ee_eqD (hm : behindInMarks .Eq b = false) (ha : EE S a ρ ms r1 ms1) (hb : EE S b ρ ms1 r2 ms2) (h1 : res ms2 r1 = some d) (h2 : res ms2 r2 = some d') (s1 : SeqAt.shaped d = true) (s2 : SeqAt.shaped d' = true) :
    EE S (.Compare a [.Eq] [b] pos) ρ ms (.dat (.bool (PyData.eqv d d'))) ms2 := ee_cmp (fun _ hX => o_eqD hX) hm (op2_eqD h1 h2 s1 s2) ha hb
theorem et_eqD (hm : behindInMarks .Eq b = false) (ha : EE S a ρ ms r1 ms1) (hb : EE S b ρ ms1 r2 ms2) (h1 : res ms2 r1 = some d) (h2 : res ms2 r2 = some d') (s1 : SeqAt.shaped d = true) (s2 : SeqAt.shaped d' = true) :
    ET S (.Compare a [.Eq] [b] pos) ρ ms (PyData.eqv d d') ms2 := et_cmp (fun _ hX => o_eqD hX) hm (op2_eqD h1 h2 s1 s2) ha hb
theorem ee_neD (hm : behindInMarks .NotEq b = false) (ha : EE S a ρ ms r1 ms1) (hb : EE S b ρ ms1 r2 ms2) (h1 : res ms2 r1 = some d) (h2 : res ms2 r2 = some d') (s1 : SeqAt.shaped d = true) (s2 : SeqAt.shaped d' = true) :
    EE S (.Compare a [.NotEq] [b] pos) ρ ms (.dat (.bool (!PyData.eqv d d'))) ms2 := ee_cmp (fun _ hX => o_neD hX) hm (op2_neD h1 h2 s1 s2) ha hb
theorem et_neD (hm : behindInMarks .NotEq b = false) (ha : EE S a ρ ms r1 ms1) (hb : EE S b ρ ms1 r2 ms2) (h1 : res ms2 r1 = some d) (h2 : res ms2 r2 = some d') (s1 : SeqAt.shaped d = true) (s2 : SeqAt.shaped d' = true) :
    ET S (.Compare a [.NotEq] [b] pos) ρ ms (!PyData.eqv d d') ms2 := et_cmp (fun _ hX => o_neD hX) hm (op2_neD h1 h2 s1 s2) ha hb
end
end Abs
namespace Abs
open PySem PySem.Spec PyProof.Rows L2
section
variable {S : Sx} {e a b c : Expr} {es rest : List Expr} {ρ : Env'} {ms ms' ms1 ms2 ms3 : MS} {r r1 r2 r3 : Rs} {pos : Pos} {t u : Bool} {i j : Int}

/-! ### and, or, not, if-else -/
def cW (S : Sx) (e : Expr) : TT := fun σ H Q => ∃ te : TT, (∀ X, InS S X → PW X e te) ∧ te σ H Q
theorem pw_c {X : Cx} (h : InS S X) (e : Expr) : PW X e (cW S e) := ⟨fun wh pins s σ H Q I ⟨te, p, q⟩ => (p X h).run wh pins s σ H Q I q⟩
def EW (S : Sx) (e : Expr) (ρ : Env') (ms : MS) (b : Bool) (ms' : MS) : Prop := EVb S (cW S e) ρ ms b ms'
theorem EW.of {te : TT} (p : ∀ X, InS S X → PW X e te) (h : EVb S te ρ ms t ms') : EW S e ρ ms t ms' := fun as σ H Q s en k => ⟨te, p, h as σ H Q s en k⟩
theorem et_w (h : EW S e ρ ms t ms') : ET S e ρ ms t ms' := .of (fun X hX => (pw_c hX e).pt) h
theorem ew_and1 (h : ET S a ρ ms t ms') : EW S (.BoolOp .And [a] pos) ρ ms t ms' := .of (fun X hX => pw_and1 (pt_c hX a)) h
theorem ew_or1 (h : ET S a ρ ms t ms') : EW S (.BoolOp .Or [a] pos) ρ ms t ms' := .of (fun X hX => pw_or1 (pt_c hX a)) h
theorem ew_and (h : ET S a ρ ms t ms1) (h1 : t = true → EW S (.BoolOp .And (b :: rest) pos) ρ ms1 u ms2) (h0 : t = false → u = false ∧ ms2 = ms1) : EW S (.BoolOp .And (a :: b :: rest) pos) ρ ms u ms2 :=
  .of (fun X hX => pw_and (pt_c hX a) (pw_c hX _)) fun as σ H Q s en k => h as σ H _ s en fun H1 k1 s1 => by
    cases t with
    | true => exact iteT (h1 rfl as σ H1 Q s1 (en.kp k1) fun H2 k2 s2 => k H2 (k1.trans k2) s2)
    | false =>
      obtain ⟨rfl, rfl⟩ := h0 rfl
      exact iteF (k H1 k1 s1)
theorem ew_or (h : ET S a ρ ms t ms1) (h1 : t = false → EW S (.BoolOp .Or (b :: rest) pos) ρ ms1 u ms2) (h0 : t = true → u = true ∧ ms2 = ms1) : EW S (.BoolOp .Or (a :: b :: rest) pos) ρ ms u ms2 :=
  .of (fun X hX => pw_or (pt_c hX a) (pw_c hX _)) fun as σ H Q s en k => h as σ H _ s en fun H1 k1 s1 => by
    cases t with
    | false => exact iteF (h1 rfl as σ H1 Q s1 (en.kp k1) fun H2 k2 s2 => k H2 (k1.trans k2) s2)
    | true =>
      obtain ⟨rfl, rfl⟩ := h0 rfl
      exact iteT (k H1 k1 s1)
theorem et_not (h : ET S a ρ ms t ms') : ET S (.UnaryOp .Not a pos) ρ ms (!t) ms' :=
  .of (fun X hX => pt_not (pt_c hX a)) fun as σ H Q s en k => h as σ H _ s en fun H1 k1 s1 => k H1 k1 s1
theorem et_val (he : ∀ env whole, isTrue e env whole = (do let v ← whole; standAt e.pos; holding [v] (truthy v))) (h : EE S e ρ ms (.dat (.bool t)) ms') : ET S e ρ ms t ms' :=
  .of (fun X hX => pt_val (pe_c hX e) (he _)) fun as σ H Q s en k => h as σ H _ s en fun v H1 k1 s1 q => by
    unfold RsOk R at q
    exact ⟨t, q, k H1 k1 s1⟩
theorem ee_one {op} (h : EE S a ρ ms r ms') : EE S (.BoolOp op [a] pos) ρ ms r ms' := .of (fun X hX => pe_one (pe_c hX a)) h
theorem ee_and (h : EE S a ρ ms (.dat (.bool t)) ms1) (h1 : t = true → EE S (.BoolOp .And (b :: rest) pos) ρ ms1 (.dat (.bool u)) ms2) (h0 : t = false → u = false ∧ ms2 = ms1) : EE S (.BoolOp .And (a :: b :: rest) pos) ρ ms (.dat (.bool u)) ms2 :=
  .of (fun X hX => pe_and (pe_c hX a) (pe_c hX _)) fun as σ H Q s en k => h as σ H _ s en fun v H1 k1 s1 q => by
    unfold RsOk R at q
    refine ⟨t, q, ?_⟩
    cases t with
    | true => exact iteT (h1 rfl as σ H1 Q s1 (en.kp k1) fun v H2 k2 s2 q2 => k v H2 (k1.trans k2) s2 (q2.back' s1 k1))
    | false =>
      obtain ⟨rfl, rfl⟩ := h0 rfl
      exact iteF (k _ H1 k1 s1 (by unfold RsOk R; rfl))
theorem ee_or (h : EE S a ρ ms (.dat (.bool t)) ms1) (h1 : t = false → EE S (.BoolOp .Or (b :: rest) pos) ρ ms1 (.dat (.bool u)) ms2) (h0 : t = true → u = true ∧ ms2 = ms1) : EE S (.BoolOp .Or (a :: b :: rest) pos) ρ ms (.dat (.bool u)) ms2 :=
  .of (fun X hX => pe_or (pe_c hX a) (pe_c hX _)) fun as σ H Q s en k => h as σ H _ s en fun v H1 k1 s1 q => by
    unfold RsOk R at q
    refine ⟨t, q, ?_⟩
    cases t with
    | false => exact iteF (h1 rfl as σ H1 Q s1 (en.kp k1) fun v H2 k2 s2 q2 => k v H2 (k1.trans k2) s2 (q2.back' s1 k1))
    | true =>
      obtain ⟨rfl, rfl⟩ := h0 rfl
      exact iteT (k _ H1 k1 s1 (by unfold RsOk R; rfl))
theorem ee_not (h : EE S a ρ ms (.dat (.bool t)) ms') : EE S (.UnaryOp .Not a pos) ρ ms (.dat (.bool (!t))) ms' :=
  .of (fun X hX => pe_not (pe_c hX a)) fun as σ H Q s en k => h as σ H _ s en fun v H1 k1 s1 q => by
    unfold RsOk R at q
    exact ⟨t, q, k _ H1 k1 s1 (by unfold RsOk R; rfl)⟩
theorem ee_if (h : ET S c ρ ms t ms1) (h1 : t = true → EE S a ρ ms1 r ms2) (h0 : t = false → EE S b ρ ms1 r ms2) : EE S (.IfExp c a b pos) ρ ms r ms2 :=
  .of (fun X hX => pe_ifExp (pt_c hX c) (pe_c hX a) (pe_c hX b)) fun as σ H Q s en k => h as σ H _ s en fun H1 k1 s1 => by
    cases t with
    | true => exact iteT (h1 rfl as σ H1 Q s1 (en.kp k1) fun v H2 k2 s2 q2 => k v H2 (k1.trans k2) s2 (q2.back' s1 k1))
    | false => exact iteF (h0 rfl as σ H1 Q s1 (en.kp k1) fun v H2 k2 s2 q2 => k v H2 (k1.trans k2) s2 (q2.back' s1 k1))
theorem ee_neg (h : EE S a ρ ms (.dat (.int i)) ms') : EE S (.UnaryOp .USub a pos) ρ ms (.dat (.int (-i))) ms' :=
  .of (fun X hX => pe_un un_neg (pe_c hX a)) fun as σ H Q s en k => h as σ H _ s en fun v H1 k1 s1 q => by
    unfold RsOk R at q
    exact ⟨i, q, k _ H1 k1 s1 (by unfold RsOk R; rfl)⟩
/-- a op b op' c of ints -/
theorem ee_chain {op op' : CmpOp} {g g' : Int → Int → Bool} {k : Int} (ho : ∀ X : Cx, OpR X (compareOp op) (rI0 fun i j => .bl (g i j))) (ho' : ∀ X : Cx, OpR X (compareOp op') (rI0 fun i j => .bl (g' i j)))
    (hm : lastMarks [op, op'] [b, c] = false) (ha : EE S a ρ ms (.dat (.int i)) ms) (hb : EE S b ρ ms (.dat (.int j)) ms) (hc : EE S c ρ ms (.dat (.int k)) ms) : EE S (.Compare a [op, op'] [b, c] pos) ρ ms (.dat (.bool (g i j && g' j k))) ms :=
  .of (fun X hX => pe_chain (ho X) (ho' X) (pe_c hX a) (pe_c hX b) (pe_c hX c) hm) fun as σ H Q s en kk => ha as σ H _ s en fun v H1 k1 s1 q1 => hb as σ H1 _ s1 (en.kp k1) fun v2 H2 k2 s2 q2 => by
    refine ⟨i, j, q1.int, q2.int, g i j, rfl, ?_⟩
    cases hg : g i j with
    | true =>
      refine iteT (hc as σ H2 _ s2 (en.kp (k1.trans k2)) fun v3 H3 k3 s3 q3 => ?_)
      rw [hg] at kk
      exact ⟨j, k, q2.int, q3.int, kk _ H3 ((k1.trans k2).trans k3) s3 rBool⟩
    | false =>
      rw [hg] at kk
      exact iteF (kk _ H2 (k1.trans k2) s2 rBool)
theorem et_chain {op op' : CmpOp} {g g' : Int → Int → Bool} {k : Int} (ho : ∀ X : Cx, OpR X (compareOp op) (rI0 fun i j => .bl (g i j))) (ho' : ∀ X : Cx, OpR X (compareOp op') (rI0 fun i j => .bl (g' i j)))
    (hm : lastMarks [op, op'] [b, c] = false) (ha : EE S a ρ ms (.dat (.int i)) ms) (hb : EE S b ρ ms (.dat (.int j)) ms) (hc : EE S c ρ ms (.dat (.int k)) ms) : ET S (.Compare a [op, op'] [b, c] pos) ρ ms (g i j && g' j k) ms :=
  .of (fun X hX => pt_chain (ho X) (ho' X) (pe_c hX a) (pe_c hX b) (pe_c hX c) hm) fun as σ H Q s en kk => ha as σ H _ s en fun v H1 k1 s1 q1 => hb as σ H1 _ s1 (en.kp k1) fun v2 H2 k2 s2 q2 => by
    refine ⟨i, j, q1.int, q2.int, g i j, rfl, ?_⟩
    cases hg : g i j with
    | true =>
      refine iteT (hc as σ H2 _ s2 (en.kp (k1.trans k2)) fun v3 H3 k3 s3 q3 => ?_)
      rw [hg] at kk
      exact ⟨j, k, q2.int, q3.int, _, rfl, kk H3 ((k1.trans k2).trans k3) s3⟩
    | false =>
      rw [hg] at kk
      exact iteF ⟨_, rfl, kk H2 (k1.trans k2) s2⟩

/-! ### argument lists, displays -/
theorem RsA.kp {K : PySem.W.Frag} {as : List Addr} {H0 H H' : Hp} (k : Kp (S.T as) H H') : ∀ {rs : List Rs} {vs : List V}, RsA K as H0 H vs rs → RsA K as H0 H' vs rs
  | [], _, h => h
  | r :: rs, _, ⟨v, u, e, h1, h2⟩ => ⟨v, u, e, h1.kp k, RsA.kp k h2⟩
theorem RsA.back' {K : PySem.W.Frag} {as : List Addr} {H H1 H' : Hp} (s : SR K as H1 ms) (k : Kp (S.T as) H H1) : ∀ {rs : List Rs} {vs : List V}, RsA K as H1 H' vs rs → RsA K as H H' vs rs
  | [], _, h => h
  | r :: rs, _, ⟨v, u, e, h1, h2⟩ => ⟨v, u, e, h1.back' s k, RsA.back' s k h2⟩
theorem ea_nil : EA S [] ρ ms [] ms := .of (fun _ _ => pa_nil) fun as σ H Q s en k => k [] H .refl s rfl
theorem ea_cons {rs : List Rs} (hs : ∀ X : Cx, ∀ (te : TE) (tr : TA), PE X a te → PA X es tr → PA X (a :: es) (tCons te tr)) (ha : EE S a ρ ms r ms1) (hr : EA S es ρ ms1 rs ms2) : EA S (a :: es) ρ ms (r :: rs) ms2 :=
  .of (te := tCons (cE S a) (cA S es)) (fun X hX => hs X _ _ (pe_c hX a) (pa_c hX es)) fun as σ H Q s en k => ha as σ H _ s en fun v H1 k1 s1 q1 => hr as σ H1 _ s1 (en.kp k1) fun vs H2 k2 s2 q2 =>
    k _ H2 (k1.trans k2) s2 ⟨v, vs, rfl, q1.kp k2, q2.back' s1 k1⟩
/-- results as data -/
def frz : Rs → Option D
  | .dat d => some d
  | .new ds => some (.list ds)
  | _ => none
def frzA : List Rs → Option (List D)
  | [] => some []
  | r :: rs => (frz r).bind fun d => (frzA rs).map (d :: ·)
theorem RsOk.frz {K : PySem.W.Frag} {as : List Addr} {H0 H : Hp} {v : V} {d : D} (h : RsOk K as H0 H v r) (e : frz r = some d) : R K as H v d := by
  cases r with
  | dat d' => cases e; exact h
  | new ds =>
    cases e
    obtain ⟨p, xs, e1, n, np, hp, q⟩ := h
    unfold R
    exact ⟨p, xs, e1, np, hp, RA.sub (fun a z => List.mem_cons_of_mem _ z) q⟩
  | mu k => cases e
  | scr ns => cases e
  | ty T => cases e
theorem RsA.frz {K : PySem.W.Frag} {as : List Addr} {H0 H : Hp} : ∀ {rs : List Rs} {vs : List V} {ds : List D}, RsA K as H0 H vs rs → frzA rs = some ds → RA K as H vs ds
  | [], vs, ds, h, e => by
    cases e
    have h : vs = [] := h
    subst h
    exact RA.nil
  | r :: rs, _, ds, ⟨v, u, e, h1, h2⟩, ef => by
    subst e
    unfold frzA at ef
    cases e1 : Abs.frz r with
    | none => rw [e1] at ef; cases ef
    | some d =>
      rw [e1] at ef
      cases e2 : frzA rs with
      | none => rw [e2] at ef; cases ef
      | some ds' =>
        rw [e2] at ef
        cases ef
        exact RA.cons (h1.frz e1) (h2.frz e2)
theorem SR.new {K : PySem.W.Frag} {as : List Addr} {H : Hp} {p : Addr} {o : HO} (s : SR K as H ms) (hp : H p = none) : SR K as (upd H p o) ms := ⟨s.1, s.2.1, fun kk a ds' e1 e2 => by
    obtain ⟨xs, z1, z2⟩ := s.2.2 kk a ds' e1 e2
    exact ⟨xs, by rw [upd_ne (ne_of_none z1 hp)]; exact z1, z2.kq (.new hp)⟩⟩
theorem RsOk.mkNew {K : PySem.W.Frag} {as : List Addr} {H H1 : Hp} {p : Addr} {xs : List V} {ds : List D} (s : SR K as H1 ms) (k1 : Kq as H H1) (hp : H1 p = none) (q : RA K as H1 xs ds) : RsOk K as H (upd H1 p (.lst xs)) (.ref p) (.new ds) :=
  ⟨p, xs, rfl, fresh_back s k1 hp, s.notin hp, upd_same, RA.chg (.new hp) (fun a z => (List.mem_cons.mp z).elim (fun e => .inr (by rw [e]; exact hp)) .inl) _ _ q⟩
theorem RsOk.mkTup {K : PySem.W.Frag} {as : List Addr} {H H1 : Hp} {p : Addr} {xs : List V} {ds : List D} (s : SR K as H1 ms) (hp : H1 p = none) (q : RA K as H1 xs ds) : RsOk K as H (upd H1 p (.tup xs)) (.ref p) (.dat (.tuple ds)) := by
  unfold RsOk R
  exact ⟨p, xs, rfl, .inl ⟨s.notin hp, .inl upd_same⟩, q.kq (.new hp)⟩
theorem ee_tup {rs : List Rs} {ds : List D} {x1} (h : EA S es ρ ms rs ms') (hf : frzA rs = some ds) (hz : ds.length ≤ sizeLine) : EE S (.Tuple es x1 pos) ρ ms (.dat (.tuple ds)) ms' :=
  .of (fun X hX => pe_tup (pa_c hX es)) fun as σ H Q s en k => h as σ H _ s en fun vs H1 k1 s1 q => by
    have q := q.frz hf
    exact ⟨by rw [q.length]; exact hz, fun p hp => k _ _ (k1.trans (.new hp)) (s1.new hp) (.mkTup s1 hp q)⟩
theorem ee_lst {rs : List Rs} {ds : List D} (h : EA S es ρ ms rs ms') (hf : frzA rs = some ds) (hz : ds.length ≤ sizeLine) : EE S (.List es pos) ρ ms (.new ds) ms' :=
  .of (fun X hX => pe_lst (pa_c hX es)) fun as σ H Q s en k => h as σ H _ s en fun vs H1 k1 s1 q => by
    have q := q.frz hf
    refine ⟨by rw [q.length]; exact hz, fun p hp => k _ _ (k1.trans (.new hp)) (s1.new hp) (.mkNew s1 k1.q hp q)⟩
/-- what is thrown away or kept as data -/
theorem ee_frz {d : D} (hf : frz r = some d) (h : EE S e ρ ms r ms') : EE S e ρ ms (.dat d) ms' := fun as σ H Q s en k => h as σ H Q s en fun v H1 k1 s1 q => k v H1 k1 s1 (q.frz hf)

/-! ### reading lists and tuples -/
/-- the list that a result is -/
def lres (ms : MS) : Rs → Option (List D)
  | .dat (.list ds) => some ds
  | .new ds => some ds
  | .mu k => ms[k]?
  | .scr ns => some (ns.map .int)
  | _ => none
theorem ra_ints {K : PySem.W.Frag} {as : List Addr} {H : Hp} : ∀ ns : List Int, RA K as H (ns.map V.int) (ns.map .int)
  | [] => RA.nil
  | n :: ns => RA.cons (by unfold R; rfl) (ra_ints ns)
theorem RsOk.lst {K : PySem.W.Frag} {as : List Addr} {H0 H : Hp} {v : V} {ds : List D} (s : SR K as H ms) (h : RsOk K as H0 H v r) (e : lres ms r = some ds) : ∃ p xs, v = .ref p ∧ SqL K H p xs ∧ RA K as H xs ds := by
  cases r with
  | dat d =>
    cases d <;> try (cases e; done)
    cases e
    unfold RsOk R at h
    obtain ⟨p, xs, e, n, hp, q⟩ := h
    exact ⟨p, xs, e, .inl (.inl hp), q⟩
  | new ds =>
    cases e
    obtain ⟨p, xs, e, n, np, hp, q⟩ := h
    exact ⟨p, xs, e, .inl (.inl hp), RA.sub (fun a z => List.mem_cons_of_mem _ z) q⟩
  | mu k =>
    obtain ⟨p, rfl, hk⟩ := h
    obtain ⟨xs, q1, q2⟩ := s.2.2 k p ds hk e
    exact ⟨p, xs, rfl, .inl (.inl q1), q2⟩
  | scr ns =>
    cases e
    obtain ⟨p, e, q⟩ := h
    exact ⟨p, _, e, q.sq, ra_ints ns⟩
  | ty T => cases e
theorem RsOk.tup {K : PySem.W.Frag} {as : List Addr} {H0 H : Hp} {v : V} {ds : List D} (h : RsOk K as H0 H v (.dat (.tuple ds))) : ∃ p xs, v = .ref p ∧ SqT K H p xs ∧ RA K as H xs ds := by
  unfold RsOk R at h
  obtain ⟨p, xs, e, t, q⟩ := h
  exact ⟨p, xs, e, SqT.sp t, q⟩
theorem RA.atI {K : PySem.W.Frag} {as : List Addr} {H : Hp} {ds : List D} {vs : List V} {d : D} (h : RA K as H vs ds) (e : L2.atI ds i = some d) : ∃ v, L2.atI vs i = some v ∧ R K as H v d := by
  unfold L2.atI at e ⊢
  rw [h.length]
  cases q : ixN ds.length i with
  | none => rw [q] at e; cases e
  | some j =>
    rw [q] at e
    exact h.get e
theorem ee_ixL {ds : List D} {d : D} (hs : ∀ X : Cx, ∀ te tb : TE, PE X a te → PE X b tb → PE X (.Subscript a b pos) (tOp (rIxL X.K) te tb)) (ha : EE S a ρ ms r ms1) (hb : EE S b ρ ms1 (.dat (.int i)) ms2) (hl : lres ms2 r = some ds) (hi : L2.atI ds i = some d) :
    EE S (.Subscript a b pos) ρ ms (.dat d) ms2 :=
  .of (te := tOp (rIxL S.K) (cE S a) (cE S b)) (fun X hX => by have h := hs X _ _ (pe_c hX a) (pe_c hX b); rw [hX.k] at h; exact h) (evt_op ha hb fun as H0 H x y s h1 h2 Q k => by
    obtain ⟨p, xs, rfl, hq, ra⟩ := h1.lst s hl
    obtain ⟨v, e1, q⟩ := ra.atI hi
    unfold RsOk R at h2
    exact ⟨p, xs, i, v, rfl, h2, hq, e1, k v H .refl s q⟩)
theorem ee_ixT {ds : List D} {d : D} (hs : ∀ X : Cx, ∀ te tb : TE, PE X a te → PE X b tb → PE X (.Subscript a b pos) (tOp (rIxT X.K) te tb)) (ha : EE S a ρ ms (.dat (.tuple ds)) ms1) (hb : EE S b ρ ms1 (.dat (.int i)) ms2) (hi : L2.atI ds i = some d) :
    EE S (.Subscript a b pos) ρ ms (.dat d) ms2 :=
  .of (te := tOp (rIxT S.K) (cE S a) (cE S b)) (fun X hX => by have h := hs X _ _ (pe_c hX a) (pe_c hX b); rw [hX.k] at h; exact h) (evt_op ha hb fun as H0 H x y s h1 h2 Q k => by
    obtain ⟨p, xs, rfl, hq, ra⟩ := h1.tup
    obtain ⟨v, e1, q⟩ := ra.atI hi
    unfold RsOk R at h2
    exact ⟨p, xs, i, v, rfl, h2, hq, e1, k v H .refl s q⟩)
/-- parts of a slice -/
def cO (S : Sx) (e : Option Expr) : TO := fun σ H Q => ∃ te : TO, (∀ X, InS S X → PO X e te) ∧ te σ H Q
theorem po_c {X : Cx} (h : InS S X) (e : Option Expr) : PO X e (cO S e) := ⟨fun pins s σ H Q I ⟨te, p, q⟩ => (p X h).run pins s σ H Q I q⟩
def EO (S : Sx) (e : Option Expr) (ρ : Env') (ms : MS) (o : Option Int) : Prop := ∀ (as : List Addr) (σ : L2.St) (H : Hp) (Q : Option Int → Hp → Prop), SR S.K as H ms → EnvOk S.K as H σ ρ →
  (∀ H', Kp (S.T as) H H' → SR S.K as H' ms → Q o H') → cO S e σ H Q
theorem eo_none : EO S none ρ ms none := fun as σ H Q s en k => ⟨tNoPart, fun _ _ => po_none, k H .refl s⟩
theorem eo_some (h : EE S a ρ ms (.dat (.int i)) ms) : EO S (some a) ρ ms (some i) := fun as σ H Q s en k => ⟨tPart (cE S a), fun X hX => po_some (pe_c hX a), h as σ H _ s en fun v H1 k1 s1 q => by
  unfold RsOk R at q
  exact ⟨i, q, k H1 k1 s1⟩⟩
def cutD (xs : List D) (lo hi : Option Int) : List D := (xs.drop (HT.sIx xs.length 0 lo)).take (HT.sIx xs.length xs.length hi - HT.sIx xs.length 0 lo)
theorem RA.cut {K : PySem.W.Frag} {as : List Addr} {H : Hp} {ds : List D} {vs : List V} (h : RA K as H vs ds) (lo hi : Option Int) : RA K as H (cutV vs lo hi) (cutD ds lo hi) := by
  unfold cutV cutD
  rw [h.length]
  exact (h.drop _).take _
theorem evt_sl {rr : V → Option Int → Option Int → Hp → VK → Prop} {te : TE} {lo hi : Option Expr} {x y : Option Int} (he : EVt S te ρ ms r1 ms1) (hl : EO S lo ρ ms1 x) (hh : EO S hi ρ ms1 y)
    (h : ∀ (as : List Addr) (H0 H : Hp) (v : V), SR S.K as H ms1 → RsOk S.K as H0 H v r1 → ∀ Q : VK, (∀ v H', Kp (fun _ => False) H H' → SR S.K as H' ms1 → RsOk S.K as H H' v r2 → Q v H') → rr v x y H Q) : EVt S (tSl rr te (cO S lo) (cO S hi)) ρ ms r2 ms1 := fun as σ H Q s en k =>
  he as σ H _ s en fun v H1 k1 s1 q1 => hl as σ H1 _ s1 (en.kp k1) fun H2 k2 s2 => hh as σ H2 _ s2 (en.kp (k1.trans k2)) fun H3 k3 s3 =>
    h as H H3 v s3 (q1.kp (k2.trans k3)) Q fun v' H4 k4 s4 q4 => k v' H4 (((k1.trans k2).trans k3).trans k4.f) s4 (q4.back' s3 ((k1.trans k2).trans k3))
theorem ee_slL {lo hi : Option Expr} {x y : Option Int} {ds : List D} {p2} (he : EE S e ρ ms r ms1) (hl : EO S lo ρ ms1 x) (hh : EO S hi ρ ms1 y) (hd : lres ms1 r = some ds) : EE S (.Subscript e (.Slice lo hi none p2) pos) ρ ms (.new (cutD ds x y)) ms1 :=
  .of (te := tSl (rSlL S.K) (cE S e) (cO S lo) (cO S hi)) (fun X hX => by have h := pe_slice (p2 := p2) (pos := pos) (sl_list (X := X)) (pe_c hX e) (po_c hX lo) (po_c hX hi); rw [hX.k] at h; exact h)
    (evt_sl he hl hh fun as H0 H v s h1 Q k => by
      obtain ⟨p, xs, rfl, hq, ra⟩ := h1.lst s hd
      exact ⟨p, xs, rfl, hq, fun q hp => k _ _ (.new hp) (s.new hp) (.mkNew s .refl hp (ra.cut x y))⟩)
theorem ee_slT {lo hi : Option Expr} {x y : Option Int} {ds : List D} {p2} (he : EE S e ρ ms (.dat (.tuple ds)) ms1) (hl : EO S lo ρ ms1 x) (hh : EO S hi ρ ms1 y) : EE S (.Subscript e (.Slice lo hi none p2) pos) ρ ms (.dat (.tuple (cutD ds x y))) ms1 :=
  .of (te := tSl (rSlA S.K) (cE S e) (cO S lo) (cO S hi)) (fun X hX => by have h := pe_slice (p2 := p2) (pos := pos) (sl_tupA (X := X)) (pe_c hX e) (po_c hX lo) (po_c hX hi); rw [hX.k] at h; exact h)
    (evt_sl he hl hh fun as H0 H v s h1 Q k => by
      have h1' := h1
      obtain ⟨p, xs, rfl, hq, ra⟩ := h1.tup
      refine ⟨p, xs, rfl, hq, fun hw => ?_, fun _ q hp => k _ _ (.new hp) (s.new hp) (.mkTup s hp (ra.cut x y))⟩
      have e : cutD ds x y = ds := by
        unfold cutD
        rw [ra.length] at hw
        rw [hw.1, hw.2]
        simp
      refine k _ H .refl s ?_
      rw [e]
      exact h1')
end
end Abs
namespace Abs
open PySem PySem.Spec PyProof.Rows L2
section
variable {S : Sx} {e a b c : Expr} {es : List Expr} {ρ : Env'} {ms ms' ms1 ms2 ms3 : MS} {r r1 r2 r3 : Rs} {rs : List Rs} {pos : Pos} {i j : Int} {x : Str} {p : Pos}

/-! ### built-in functions -/
def CrOk (S : Sx) (r : List V → Hp → VK → Prop) (rs : List Rs) (ms : MS) (r3 : Rs) : Prop := ∀ (as : List Addr) (H0 H : Hp) (vs : List V), SR S.K as H ms → RsA S.K as H0 H vs rs →
  ∀ Q : VK, (∀ v H', Kp (fun _ => False) H H' → SR S.K as H' ms → RsOk S.K as H H' v r3 → Q v H') → r vs H Q
theorem evt_cb {rr : List V → Hp → VK → Prop} {ta : TA} (ha : EVa S ta ρ ms rs ms1) (h : CrOk S rr rs ms1 r3) : EVt S (tCB rr ta) ρ ms r3 ms1 := fun as σ H Q s en k =>
  ha as σ H _ s en fun vs H1 k1 s1 q1 => h as H H1 vs s1 q1 Q fun v H2 k2 s2 q2 => k v H2 (k1.trans k2.f) s2 (q2.back' s1 k1)
theorem ee_cb {id : String} {rr : List V → Hp → VK → Prop} (hc : ∀ X, InS S X → CallR X (.builtin id) rr) (hm : S.mg x = none) (hg : S.sc.names.lookup x = some .globalImplicit) (hv : bootBuiltins x = some (.builtin id)) (h : CrOk S rr rs ms1 r3)
    (ha : EA S (e :: es) ρ ms rs ms1) (hn : x ≠ "__name__" := by decide) (hdb : (x == ("__debug__" : Str)) = false := by decide)
    (he : ∀ env, starEach (e :: es) env = (false, eval e env) :: starEach es env := by intro _; rfl) (hpl : ∀ env, (backTo pos (starEach es env)).any (·.1) = false := by intro _; rfl) : EE S (.Call (.Name x p) (e :: es) [] pos) ρ ms r3 ms1 :=
  .of (fun X hX => pe_callB (hc X hX) (hX.gl hg) (by rw [hX.mg]; exact hm) hv (pa_c hX _) hn hdb (he _) (hpl _)) (evt_cb ha h)
theorem ee_cty {T : String} {rr : List V → Hp → VK → Prop} (hc : ∀ X, InS S X → CallR X (.type T) rr) (hm : S.mg x = none) (hg : S.sc.names.lookup x = some .globalImplicit) (hv : bootBuiltins x = some (.type T)) (h : CrOk S rr rs ms1 r3)
    (ha : EA S (e :: es) ρ ms rs ms1) (hn : x ≠ "__name__" := by decide) (hdb : (x == ("__debug__" : Str)) = false := by decide)
    (he : ∀ env, starEach (e :: es) env = (false, eval e env) :: starEach es env := by intro _; rfl) (hpl : ∀ env, (backTo pos (starEach es env)).any (·.1) = false := by intro _; rfl) : EE S (.Call (.Name x p) (e :: es) [] pos) ρ ms r3 ms1 :=
  .of (fun X hX => pe_callTy (hc X hX) (hX.gl hg) (by rw [hX.mg]; exact hm) hv (pa_c hX _) hn hdb (he _) (hpl _)) (evt_cb ha h)
theorem rs1 {K : PySem.W.Frag} {as : List Addr} {H0 H : Hp} {vs : List V} (h : RsA K as H0 H vs [r]) : ∃ v, vs = [v] ∧ RsOk K as H0 H v r := by
  obtain ⟨v, u, e, q, e2⟩ := h
  have e2 : u = [] := e2
  subst e2
  exact ⟨v, e, q⟩
theorem rs2 {K : PySem.W.Frag} {as : List Addr} {H0 H : Hp} {vs : List V} (h : RsA K as H0 H vs [r1, r2]) : ∃ v u, vs = [v, u] ∧ RsOk K as H0 H v r1 ∧ RsOk K as H0 H u r2 := by
  obtain ⟨v, u, e, q, h2⟩ := h
  obtain ⟨w, rfl, q2⟩ := rs1 h2
  exact ⟨v, w, e, q, q2⟩
section
theorem cr_len {ds : List D} (hl : lres ms r = some ds) : CrOk S (fun xs H Q => ∃ p ys, xs = [.ref p] ∧ (SqL S.K H p ys ∨ SqT S.K H p ys) ∧ Q (.int ys.length) H) [r] ms (.dat (.int (ds.length : Int))) := fun as H0 H vs s h Q k => by
  obtain ⟨v, rfl, q⟩ := rs1 h
  obtain ⟨p, xs, rfl, hq, ra⟩ := q.lst s hl
  exact ⟨p, xs, rfl, .inl hq, by rw [ra.length]; exact k _ H .refl s rInt⟩
theorem cr_lenT {ds : List D} : CrOk S (fun xs H Q => ∃ p ys, xs = [.ref p] ∧ (SqL S.K H p ys ∨ SqT S.K H p ys) ∧ Q (.int ys.length) H) [.dat (.tuple ds)] ms (.dat (.int (ds.length : Int))) := fun as H0 H vs s h Q k => by
  obtain ⟨v, rfl, q⟩ := rs1 h
  obtain ⟨p, xs, rfl, hq, ra⟩ := q.tup
  exact ⟨p, xs, rfl, .inr hq, by rw [ra.length]; exact k _ H .refl s rInt⟩
theorem cr_abs : CrOk S (fun xs H Q => ∃ i, xs = [.int i] ∧ Q (.int (if i < 0 then -i else i)) H) [.dat (.int i)] ms (.dat (.int (i.natAbs : Int))) := fun as H0 H vs s h Q k => by
  obtain ⟨v, rfl, q⟩ := rs1 h
  have e : (if i < 0 then -i else i) = (i.natAbs : Int) := by split <;> omega
  exact ⟨i, by rw [q.int], by rw [e]; exact k _ H .refl s rInt⟩
theorem cr_max2' : CrOk S (fun xs H Q => ∃ i j, xs = [.int i, .int j] ∧ Q (.int (if j > i then j else i)) H) [.dat (.int i), .dat (.int j)] ms (.dat (.int (max i j))) := fun as H0 H vs s h Q k => by
  obtain ⟨v, u, rfl, q1, q2⟩ := rs2 h
  have e : (if j > i then j else i) = max i j := by rw [Int.max_def]; split <;> split <;> omega
  exact ⟨i, j, by rw [q1.int, q2.int], by rw [e]; exact k _ H .refl s rInt⟩
theorem cr_min2' : CrOk S (fun xs H Q => ∃ i j, xs = [.int i, .int j] ∧ Q (.int (if j < i then j else i)) H) [.dat (.int i), .dat (.int j)] ms (.dat (.int (min i j))) := fun as H0 H vs s h Q k => by
  obtain ⟨v, u, rfl, q1, q2⟩ := rs2 h
  have e : (if j < i then j else i) = min i j := by rw [Int.min_def]; split <;> split <;> omega
  exact ⟨i, j, by rw [q1.int, q2.int], by rw [e]; exact k _ H .refl s rInt⟩
theorem cr_intI : CrOk S (fun xs H Q => (∃ i, xs = [.int i] ∧ Q (.int i) H) ∨ ∃ k, xs = [.bl k] ∧ Q (.int (if k then 1 else 0)) H) [.dat (.int i)] ms (.dat (.int i)) := fun as H0 H vs s h Q k => by
  obtain ⟨v, rfl, q⟩ := rs1 h
  exact .inl ⟨i, by rw [q.int], k _ H .refl s rInt⟩
theorem cr_intB {t : Bool} : CrOk S (fun xs H Q => (∃ i, xs = [.int i] ∧ Q (.int i) H) ∨ ∃ k, xs = [.bl k] ∧ Q (.int (if k then 1 else 0)) H) [.dat (.bool t)] ms (.dat (.int (if t then 1 else 0))) := fun as H0 H vs s h Q k => by
  obtain ⟨v, rfl, q⟩ := rs1 h
  exact .inr ⟨t, by rw [q.bool], k _ H .refl s rInt⟩
theorem cr_sum' {ns : List Int} (hl : lres ms r = some (ns.map .int)) : CrOk S (rSum S.K) [r] ms (.dat (.int ns.sum)) := fun as H0 H vs s h Q k => by
  obtain ⟨v, rfl, q⟩ := rs1 h
  obtain ⟨p, xs, rfl, hq, ra⟩ := q.lst s hl
  rw [ra.ints] at hq
  exact ⟨p, ns, rfl, hq, k _ H .refl s rInt⟩
theorem cr_all' {bs : List Bool} (hl : lres ms r = some (bs.map .bool)) : CrOk S (rAll S.K) [r] ms (.dat (.bool (bs.all id))) := fun as H0 H vs s h Q k => by
  obtain ⟨v, rfl, q⟩ := rs1 h
  obtain ⟨p, xs, rfl, hq, ra⟩ := q.lst s hl
  rw [ra.bools] at hq
  exact ⟨p, bs, rfl, hq, k _ H .refl s rBool⟩
theorem cr_any' {bs : List Bool} (hl : lres ms r = some (bs.map .bool)) : CrOk S (rAny S.K) [r] ms (.dat (.bool (bs.any id))) := fun as H0 H vs s h Q k => by
  obtain ⟨v, rfl, q⟩ := rs1 h
  obtain ⟨p, xs, rfl, hq, ra⟩ := q.lst s hl
  rw [ra.bools] at hq
  exact ⟨p, bs, rfl, hq, k _ H .refl s rBool⟩
theorem cr_maxL {ns : List Int} {m : Int} (hl : lres ms r = some (ns.map .int)) (hm : m ∈ ns) (hx : ∀ y ∈ ns, y ≤ m) : CrOk S (rMax S.K) [r] ms (.dat (.int m)) := fun as H0 H vs s h Q k => by
  obtain ⟨v, rfl, q⟩ := rs1 h
  obtain ⟨p, xs, rfl, hq, ra⟩ := q.lst s hl
  rw [ra.ints] at hq
  refine ⟨p, ns, rfl, hq, List.length_pos_of_mem hm, fun m' h1 h2 => ?_⟩
  have e : m' = m := Int.le_antisymm (hx m' h1) (h2 m hm)
  rw [e]; exact k _ H .refl s rInt
theorem cr_minL {ns : List Int} {m : Int} (hl : lres ms r = some (ns.map .int)) (hm : m ∈ ns) (hx : ∀ y ∈ ns, m ≤ y) : CrOk S (rMin S.K) [r] ms (.dat (.int m)) := fun as H0 H vs s h Q k => by
  obtain ⟨v, rfl, q⟩ := rs1 h
  obtain ⟨p, xs, rfl, hq, ra⟩ := q.lst s hl
  rw [ra.ints] at hq
  refine ⟨p, ns, rfl, hq, List.length_pos_of_mem hm, fun m' h1 h2 => ?_⟩
  have e : m' = m := Int.le_antisymm (h2 m hm) (hx m' h1)
  rw [e]; exact k _ H .refl s rInt
theorem cr_tupL {ds : List D} (hl : lres ms r = some ds) : CrOk S (fun xs H Q => ∃ p ys, xs = [.ref p] ∧ ((SqL S.K H p ys ∧ ∀ l, H l = none → Q (.ref l) (upd H l (.tup ys))) ∨ (SqT S.K H p ys ∧ Q (.ref p) H))) [r] ms (.dat (.tuple ds)) := fun as H0 H vs s h Q k => by
  obtain ⟨v, rfl, q⟩ := rs1 h
  obtain ⟨p, xs, rfl, hq, ra⟩ := q.lst s hl
  exact ⟨p, xs, rfl, .inl ⟨hq, fun l hl => k _ _ (.new hl) (s.new hl) (.mkTup s hl ra)⟩⟩
theorem cr_tupT {ds : List D} : CrOk S (fun xs H Q => ∃ p ys, xs = [.ref p] ∧ ((SqL S.K H p ys ∧ ∀ l, H l = none → Q (.ref l) (upd H l (.tup ys))) ∨ (SqT S.K H p ys ∧ Q (.ref p) H))) [.dat (.tuple ds)] ms (.dat (.tuple ds)) := fun as H0 H vs s h Q k => by
  obtain ⟨v, rfl, q⟩ := rs1 h
  have q' := q
  obtain ⟨p, xs, rfl, hq, ra⟩ := q.tup
  exact ⟨p, xs, rfl, .inr ⟨hq, k _ H .refl s q'⟩⟩
theorem cr_listL {ds : List D} (hl : lres ms r = some ds) : CrOk S (fun xs H Q => ∃ p ys, xs = [.ref p] ∧ (SqL S.K H p ys ∨ SqT S.K H p ys) ∧ ∀ l, H l = none → Q (.ref l) (upd H l (.lst ys))) [r] ms (.new ds) := fun as H0 H vs s h Q k => by
  obtain ⟨v, rfl, q⟩ := rs1 h
  obtain ⟨p, xs, rfl, hq, ra⟩ := q.lst s hl
  exact ⟨p, xs, rfl, .inl hq, fun l hl => k _ _ (.new hl) (s.new hl) (.mkNew s .refl hl ra)⟩
theorem cr_listT {ds : List D} : CrOk S (fun xs H Q => ∃ p ys, xs = [.ref p] ∧ (SqL S.K H p ys ∨ SqT S.K H p ys) ∧ ∀ l, H l = none → Q (.ref l) (upd H l (.lst ys))) [.dat (.tuple ds)] ms (.new ds) := fun as H0 H vs s h Q k => by
  obtain ⟨v, rfl, q⟩ := rs1 h
  obtain ⟨p, xs, rfl, hq, ra⟩ := q.tup
  exact ⟨p, xs, rfl, .inr hq, fun l hl => k _ _ (.new hl) (s.new hl) (.mkNew s .refl hl ra)⟩
end
variable {d : D} {ds : List D} {t : Bool}
/-- types as values; isinstance -/
theorem ee_ty {T : String} (hm : S.mg x = none) (hg : S.sc.names.lookup x = some .globalImplicit) (hv : bootBuiltins x = some (.type T)) (hn : x ≠ "__name__" := by decide) (hdb : (x == ("__debug__" : Str)) = false := by decide) : EE S (.Name x pos) ρ ms (.ty T) ms :=
  .of (te := tC (.ty T)) (fun X hX => pe_bltn (hX.gl hg) (by rw [hX.mg]; exact hm) hv rfl hn hdb) fun as σ H Q s en k => k _ H .refl s rfl
def tyD : D → String
  | .none => "NoneType" | .bool _ => "bool" | .int _ => "int" | .str _ => "str" | .list _ => "list" | .tuple _ => "tuple" | .dict _ => "dict"
theorem R.ty {K : PySem.W.Frag} {as : List Addr} {H : Hp} {v : V} : ∀ {d : D}, R K as H v d → TyX K H v (.type (tyD d))
  | .none, h => by unfold R at h; subst h; exact .base .non
  | .bool b, h => by unfold R at h; subst h; exact .base (.bl b)
  | .int b, h => by unfold R at h; subst h; exact .base (.int b)
  | .str b, h => by unfold R at h; subst h; exact .base (.str b)
  | .list ds, h => by
    unfold R at h
    obtain ⟨a, xs, rfl, n, hx, q⟩ := h
    exact .base (.lst hx)
  | .tuple ds, h => by
    unfold R at h
    obtain ⟨a, xs, rfl, t, q⟩ := h
    rcases t with ⟨n, (t | ⟨o, t⟩)⟩ | ⟨o, its, n, e1, e2, _⟩
    · exact .base (.tup t)
    · exact .fTuple t
    · exact .kTuple e1 e2
  | .dict _, h => by unfold R at h; exact h.elim
theorem cr_isi {T : String} (h : PySem.W.kitOne S.K (.type (tyD d)) (.type T) = some t) (hc : ClsV (.ty T) (.type T)) : CrOk S (rIsi S.K) [.dat d, .ty T] ms (.dat (.bool t)) := fun as H0 H vs s q Q k => by
  obtain ⟨v, u, rfl, q1, q2⟩ := rs2 q
  have q2 : u = .ty T := q2
  have q1 : R S.K as H v d := q1
  exact ⟨v, u, .type (tyD d), .type T, t, rfl, by rw [q2]; exact hc, q1.ty, h, k _ H .refl s rBool⟩
/-- isinstance by a table -/
def isi (T : String) : D → Bool
  | .bool _ => T == "bool" || T == "int" | .int _ => T == "int" | .str _ => T == "str" | .list _ => T == "list" | .tuple _ => T == "tuple" | _ => false
theorem isi_int {K : PySem.W.Frag} : ∀ d : D, PySem.W.kitOne K (.type (tyD d)) (.type "int") = some (isi "int" d)
  | .none => kit_ty (show kitB "NoneType" "int" = some false by with_unfolding_all decide +kernel)
  | .bool _ => kit_ty (show kitB "bool" "int" = some true by with_unfolding_all decide +kernel)
  | .int _ => kit_ty (show kitB "int" "int" = some true by with_unfolding_all decide +kernel)
  | .str _ => kit_ty (show kitB "str" "int" = some false by with_unfolding_all decide +kernel)
  | .list _ => kit_ty (show kitB "list" "int" = some false by with_unfolding_all decide +kernel)
  | .tuple _ => kit_ty (show kitB "tuple" "int" = some false by with_unfolding_all decide +kernel)
  | .dict _ => kit_ty (show kitB "dict" "int" = some false by with_unfolding_all decide +kernel)
theorem isi_bool {K : PySem.W.Frag} : ∀ d : D, PySem.W.kitOne K (.type (tyD d)) (.type "bool") = some (isi "bool" d)
  | .none => kit_ty (show kitB "NoneType" "bool" = some false by with_unfolding_all decide +kernel)
  | .bool _ => kit_ty (show kitB "bool" "bool" = some true by with_unfolding_all decide +kernel)
  | .int _ => kit_ty (show kitB "int" "bool" = some false by with_unfolding_all decide +kernel)
  | .str _ => kit_ty (show kitB "str" "bool" = some false by with_unfolding_all decide +kernel)
  | .list _ => kit_ty (show kitB "list" "bool" = some false by with_unfolding_all decide +kernel)
  | .tuple _ => kit_ty (show kitB "tuple" "bool" = some false by with_unfolding_all decide +kernel)
  | .dict _ => kit_ty (show kitB "dict" "bool" = some false by with_unfolding_all decide +kernel)
theorem isi_str {K : PySem.W.Frag} : ∀ d : D, PySem.W.kitOne K (.type (tyD d)) (.type "str") = some (isi "str" d)
  | .none => kit_ty (show kitB "NoneType" "str" = some false by with_unfolding_all decide +kernel)
  | .bool _ => kit_ty (show kitB "bool" "str" = some false by with_unfolding_all decide +kernel)
  | .int _ => kit_ty (show kitB "int" "str" = some false by with_unfolding_all decide +kernel)
  | .str _ => kit_ty (show kitB "str" "str" = some true by with_unfolding_all decide +kernel)
  | .list _ => kit_ty (show kitB "list" "str" = some false by with_unfolding_all decide +kernel)
  | .tuple _ => kit_ty (show kitB "tuple" "str" = some false by with_unfolding_all decide +kernel)
  | .dict _ => kit_ty (show kitB "dict" "str" = some false by with_unfolding_all decide +kernel)
theorem isi_tuple {K : PySem.W.Frag} : ∀ d : D, PySem.W.kitOne K (.type (tyD d)) (.type "tuple") = some (isi "tuple" d)
  | .none => kit_ty (show kitB "NoneType" "tuple" = some false by with_unfolding_all decide +kernel)
  | .bool _ => kit_ty (show kitB "bool" "tuple" = some false by with_unfolding_all decide +kernel)
  | .int _ => kit_ty (show kitB "int" "tuple" = some false by with_unfolding_all decide +kernel)
  | .str _ => kit_ty (show kitB "str" "tuple" = some false by with_unfolding_all decide +kernel)
  | .list _ => kit_ty (show kitB "list" "tuple" = some false by with_unfolding_all decide +kernel)
  | .tuple _ => kit_ty (show kitB "tuple" "tuple" = some true by with_unfolding_all decide +kernel)
  | .dict _ => kit_ty (show kitB "dict" "tuple" = some false by with_unfolding_all decide +kernel)
theorem isi_list {K : PySem.W.Frag} : ∀ d : D, PySem.W.kitOne K (.type (tyD d)) (.type "list") = some (isi "list" d)
  | .none => kit_ty (show kitB "NoneType" "list" = some false by with_unfolding_all decide +kernel)
  | .bool _ => kit_ty (show kitB "bool" "list" = some false by with_unfolding_all decide +kernel)
  | .int _ => kit_ty (show kitB "int" "list" = some false by with_unfolding_all decide +kernel)
  | .str _ => kit_ty (show kitB "str" "list" = some false by with_unfolding_all decide +kernel)
  | .list _ => kit_ty (show kitB "list" "list" = some true by with_unfolding_all decide +kernel)
  | .tuple _ => kit_ty (show kitB "tuple" "list" = some false by with_unfolding_all decide +kernel)
  | .dict _ => kit_ty (show kitB "dict" "list" = some false by with_unfolding_all decide +kernel)

/-! ### own defs -/
def arg : Rs → Rs
  | .new ds => .dat (.list ds)
  | r => r
theorem RsOk.arg {K : PySem.W.Frag} {as : List Addr} {H0 H : Hp} {v : V} (h : RsOk K as H0 H v r) : RsOk K as H H v (arg r) := by
  cases r with
  | new ds => exact h.frz (r := .new ds) rfl
  | dat d => exact h
  | mu k => exact h
  | scr ns => exact h
  | ty T => exact h
theorem RsA.arg {K : PySem.W.Frag} {as : List Addr} {H0 H : Hp} : ∀ {rs : List Rs} {vs : List V}, RsA K as H0 H vs rs → RsA K as H H vs (rs.map Abs.arg)
  | [], _, h => h
  | r :: rs, _, ⟨v, u, e, h1, h2⟩ => ⟨v, u, e, h1.arg, RsA.arg h2⟩
theorem RsA.length {K : PySem.W.Frag} {as : List Addr} {H0 H : Hp} : ∀ {rs : List Rs} {vs : List V}, RsA K as H0 H vs rs → vs.length = rs.length
  | [], vs, h => by
    have h : vs = [] := h
    rw [h]; rfl
  | r :: rs, _, ⟨v, u, e, h1, h2⟩ => by rw [e, List.length_cons, List.length_cons, RsA.length h2]
/-- what a def does with results and lists -/
abbrev Rel := List Rs → MS → Rs → MS → Prop
def spR (K : PySem.W.Frag) (F : Rel) : Sp := fun vs H Q _ => ∃ (as : List Addr) (ms : MS) (rs : List Rs) (r : Rs) (ms' : MS), SR K as H ms ∧ RsA K as H H vs rs ∧ F rs ms r ms' ∧
  ∀ v H', Kp (fun b => ∃ j : Nat, as[j]? = some b ∧ Rs.mu j ∈ rs) H H' → SR K as H' ms' → RsOk K as H H' v r → Q v H'
structure Kn (P : Program) (w : World) (K : PySem.W.Frag) (mg : Str → Option Value) (base : Heap) (k : Nat) (x : Str) (F : Rel) : Prop where
  ex : ∃ (f : Addr), FnR P w K mg base CX0 k f (spR K F) ∧ mg x = some (.ref f) ∧ PySem.W.keepIn K (.ref f) = true
abbrev KnS (S : Sx) (k : Nat) (x : Str) (F : Rel) : Prop := Kn S.P S.w S.K S.mg S.base k x F
theorem pe_callR {X : Cx} {CX : CXT} {k : Nat} {f : Addr} {sp : Sp} {E : XK} {t : TA} (F : FnR X.prog X.w X.K X.mg X.base CX k f sp) (hr : Room k X.A) (hg : Gl X x) (hm : X.mg x = some (.ref f)) (hk : PySem.W.keepIn X.K (.ref f) = true) (hx : Passes CX X E)
    (ha : PA X (e :: es) t) (hdb : (x == ("__debug__" : Str)) = false) (he : starEach (e :: es) X.env = (false, eval e X.env) :: starEach es X.env) (hpl : (backTo pos (starEach es X.env)).any (·.1) = false) :
    PE X (.Call (.Name x p) (e :: es) [] pos) (fun σ H Q => t σ H fun vs H1 => sp vs H1 Q E) := by
  refine ⟨fun pins s σ H Q I h => ?_⟩
  refine wpAny_Call_Name_kw (ld_glob I hg hm ?_ hdb)
  refine PySem.W.callWith_K (h₀ := X.base) I.ok.mod.kin hk (thn (ha.run pos pins s σ H _ I h) fun us s1 ⟨vs, H1, I1, r, q⟩ => ⟨I1.kIn, ?_⟩) he hpl
  exact wpAny_call (run_fnR F hr hx I1 r q)
theorem pe_callR0 {X : Cx} {CX : CXT} {k : Nat} {f : Addr} {sp : Sp} {E : XK} (F : FnR X.prog X.w X.K X.mg X.base CX k f sp) (hr : Room k X.A) (hg : Gl X x) (hm : X.mg x = some (.ref f)) (hk : PySem.W.keepIn X.K (.ref f) = true) (hx : Passes CX X E)
    (hdb : (x == ("__debug__" : Str)) = false) : PE X (.Call (.Name x p) [] [] pos) (fun σ H Q => sp [] H Q E) := by
  refine ⟨fun pins s σ H Q I h => ?_⟩
  refine wpAny_Call_Name_kw (ld_glob I hg hm ?_ hdb)
  exact PySem.W.callWith_K0 I.kIn hk (wpAny_call (run_fnR (us := []) F hr hx I .nil h))
theorem ee_call {k : Nat} {F : Rel} (Kf : KnS S k x F) (hk : k ≤ S.k) (hg : S.sc.names.lookup x = some .globalImplicit) (ha : EA S (e :: es) ρ ms rs ms1) (hF : F (rs.map arg) ms1 r ms2) (ht : ∀ j, Rs.mu j ∈ rs.map arg → S.n0 ≤ j ∨ S.tch j = true)
    (hd : (x == ("__debug__" : Str)) = false := by decide) (he : ∀ env, starEach (e :: es) env = (false, eval e env) :: starEach es env := by intro _; rfl) (hpl : ∀ env, (backTo pos (starEach es env)).any (·.1) = false := by intro _; rfl) :
    EE S (.Call (.Name x p) (e :: es) [] pos) ρ ms r ms2 := by
  obtain ⟨f, F1, hm, hkp⟩ := Kf.ex
  refine .of (te := fun σ H Q => cA S (e :: es) σ H fun vs H1 => spR S.K F vs H1 Q E0) (fun X hX => ?_) fun as σ H Q s en kk => ha as σ H _ s en fun vs H1 k1 s1 q1 => ?_
  · refine pe_callR (k := k) (f := f) (CX := CX0) ?_ (hX.room.mono hk) (hX.gl hg) (by rw [hX.mg]; exact hm) (by rw [hX.k]; exact hkp) pass0 (pa_c hX _) (by assumption) (he _) (hpl _)
    rw [hX.p, hX.w, hX.k, hX.mg, hX.base]
    exact F1
  · exact ⟨as, ms1, rs.map arg, r, ms2, s1, q1.arg, hF, fun v H2 k2 s2 q2 => kk v H2 (k1.trans fun b o n e => k2 b o (fun ⟨j, z, w⟩ => n ⟨j, z, ht j w⟩) e) s2 (q2.back' s1 k1)⟩
theorem ee_call0 {k : Nat} {F : Rel} (Kf : KnS S k x F) (hk : k ≤ S.k) (hg : S.sc.names.lookup x = some .globalImplicit) (hF : F [] ms r ms2) (hd : (x == ("__debug__" : Str)) = false := by decide) : EE S (.Call (.Name x p) [] [] pos) ρ ms r ms2 := by
  obtain ⟨f, F1, hm, hkp⟩ := Kf.ex
  refine .of (te := fun σ H Q => spR S.K F [] H Q E0) (fun X hX => ?_) fun as σ H Q s en kk => ?_
  · refine pe_callR0 (k := k) (f := f) (CX := CX0) ?_ (hX.room.mono hk) (hX.gl hg) (by rw [hX.mg]; exact hm) (by rw [hX.k]; exact hkp) pass0 (by assumption)
    rw [hX.p, hX.w, hX.k, hX.mg, hX.base]
    exact F1
  · exact ⟨as, ms, [], r, ms2, s, rfl, hF, fun v H2 k2 s2 q2 => kk v H2 (fun b o n e => k2 b o (fun ⟨j, z, w⟩ => by simp at w) e) s2 q2⟩
end
end Abs
namespace Abs
open PySem PySem.Spec PyProof.Rows L2

/-! ### statements -/
inductive Out where
  | nx (ρ : Env') (ms : MS) | rt (r : Rs) (ms : MS) | bk (ρ : Env') (ms : MS) | ct (ρ : Env') (ms : MS)
def Gr (S : Sx) (as : List Addr) (H : Hp) (as' : List Addr) (H' : Hp) : Prop := ∃ l, as' = as ++ l ∧ (∀ p ∈ l, H p = none) ∧ Kp (S.T as) H H'
def OutOk (S : Sx) (as : List Addr) (H : Hp) (D : Ends) : Out → Prop
  | .nx ρ ms => ∀ as' σ' H', Gr S as H as' H' → SR S.K as' H' ms → EnvOk S.K as' H' σ' ρ → D.nx σ' H'
  | .bk ρ ms => ∀ as' σ' H', Gr S as H as' H' → SR S.K as' H' ms → EnvOk S.K as' H' σ' ρ → D.bk σ' H'
  | .ct ρ ms => ∀ as' σ' H', Gr S as H as' H' → SR S.K as' H' ms → EnvOk S.K as' H' σ' ρ → D.ct σ' H'
  | .rt r ms => ∀ as' v H', Gr S as H as' H' → SR S.K as' H' ms → RsOk S.K as' H H' v r → D.rt v H'
def SSt (S : Sx) (ts : TS) (ρ : Env') (ms : MS) (o : Out) : Prop := ∀ (as : List Addr) (σ : L2.St) (H : Hp) (D : Ends), SR S.K as H ms → EnvOk S.K as H σ ρ → OutOk S as H D o → ts D σ H
def SS (S : Sx) (st : Stmt) (ρ : Env') (ms : MS) (o : Out) : Prop := SSt S (cS S st) ρ ms o
def SSs (S : Sx) (st : List Stmt) (ρ : Env') (ms : MS) (o : Out) : Prop := SSt S (cSs S st) ρ ms o
theorem Gr.refl {S : Sx} {as : List Addr} {H : Hp} : Gr S as H as H := ⟨[], by simp, fun _ h => by simp at h, .refl⟩
theorem Gr.of {S : Sx} {as : List Addr} {H H' : Hp} (k : Kp (S.T as) H H') : Gr S as H as H' := ⟨[], by simp, fun _ h => by simp at h, k⟩
section
variable {S : Sx} {K : PySem.W.Frag} {as as1 as2 : List Addr} {H H1 H2 H' : Hp} {ms ms1 ms2 ms3 ms' : MS} {ρ ρ1 ρ2 ρ' : Env'} {σ : L2.St} {e a b c : Expr} {r r' : Rs} {o : Out} {st : Stmt} {rest : List Stmt} {pos : Pos} {t : Bool} {i : Nat} {x : Str} {En : Ends}
theorem Sx.T_app {as l : List Addr} {b : Addr} (h : S.T (as ++ l) b) : S.T as b ∨ b ∈ l := by
  obtain ⟨j, e, w⟩ := h
  by_cases hj : j < as.length
  · rw [List.getElem?_append_left hj] at e
    exact .inl ⟨j, e, w⟩
  · rw [List.getElem?_append_right (by omega)] at e
    exact .inr (List.mem_of_getElem? e)
theorem Gr.trans (s0 : SR K as H ms) (s1 : SR K as1 H1 ms1) (g : Gr S as H as1 H1) (g2 : Gr S as1 H1 as2 H2) : Gr S as H as2 H2 := by
  obtain ⟨l, rfl, n, k⟩ := g
  obtain ⟨l2, rfl, n2, k2⟩ := g2
  refine ⟨l ++ l2, by simp, fun p hp => ?_, fun b o nb e => ?_⟩
  · rcases List.mem_append.mp hp with z | z
    · exact n p z
    · cases q : H p with
      | none => rfl
      | some o =>
        exfalso
        have h1 : p ∉ as ++ l := s1.notin (n2 p z)
        have := k.q p o (fun w => h1 (List.mem_append_left _ w)) q
        rw [n2 p z] at this
        cases this
  · refine k2 b o (fun z => ?_) (k b o nb e)
    rcases Sx.T_app z with z | z
    · exact nb z
    · rw [n b z] at e; cases e
theorem RsOk.gback {v : V} (s0 : SR K as H ms) (s1 : SR K as1 H1 ms1) (g : Gr S as H as1 H1) (h : RsOk K as2 H1 H' v r) : RsOk K as2 H H' v r := by
  obtain ⟨l, rfl, n, k⟩ := g
  cases r with
  | new ds =>
    obtain ⟨p, xs, e, n1, q⟩ := h
    refine ⟨p, xs, e, ?_, q⟩
    cases q : H p with
    | none => rfl
    | some o =>
      exfalso
      have h1 : p ∉ as ++ l := s1.notin n1
      have := k.q p o (fun w => h1 (List.mem_append_left _ w)) q
      rw [n1] at this
      cases this
  | dat d => exact h
  | mu k => exact h
  | scr ns => exact h
  | ty T => exact h
/-- an outcome seen from further back -/
theorem OutOk.back (s0 : SR S.K as H ms) (s1 : SR S.K as1 H1 ms1) (g : Gr S as H as1 H1) (h : OutOk S as H En o) : OutOk S as1 H1 En o := by
  cases o with
  | nx ρ m => exact fun as' σ' H' g' s' e' => h as' σ' H' (g.trans s0 s1 g') s' e'
  | bk ρ m => exact fun as' σ' H' g' s' e' => h as' σ' H' (g.trans s0 s1 g') s' e'
  | ct ρ m => exact fun as' σ' H' g' s' e' => h as' σ' H' (g.trans s0 s1 g') s' e'
  | rt r m => exact fun as' v H' g' s' q' => h as' v H' (g.trans s0 s1 g') s' (q'.gback s0 s1 g)
theorem SS.of {ts : TS} (p : ∀ X, InS S X → PS X st ts) (h : SSt S ts ρ ms o) : SS S st ρ ms o := fun as σ H D s en k => ⟨ts, p, h as σ H D s en k⟩
theorem SSs.of {sts : List Stmt} {ts : TS} (p : ∀ X, InS S X → PSs X sts ts) (h : SSt S ts ρ ms o) : SSs S sts ρ ms o := fun as σ H D s en k => ⟨ts, p, h as σ H D s en k⟩
theorem ss_nil : SSs S [] ρ ms (.nx ρ ms) := .of (fun _ _ => pss_nil) fun as σ H D s en k => k as σ H .refl s en
theorem ss_cons (h1 : SS S st ρ ms (.nx ρ1 ms1)) (h2 : SSs S rest ρ1 ms1 o) : SSs S (st :: rest) ρ ms o :=
  .of (fun X hX => pss_cons (ps_c hX st) (pss_c hX rest)) fun as σ H D s en k => h1 as σ H { D with nx := cSs S rest D } s en fun as1 σ1 H1 g1 s1 en1 => h2 as1 σ1 H1 D s1 en1 (k.back s s1 g1)
def Out.isNx : Out → Bool
  | .nx _ _ => true
  | _ => false
/-- the rest is not reached -/
theorem ss_out (h1 : SS S st ρ ms o) (h : o.isNx = false) : SSs S (st :: rest) ρ ms o :=
  .of (fun X hX => pss_cons (ps_c hX st) (pss_c hX rest)) fun as σ H D s en k => h1 as σ H { D with nx := cSs S rest D } s en (by
    cases o with
    | nx _ _ => cases h
    | rt _ _ => exact k
    | bk _ _ => exact k
    | ct _ _ => exact k)
theorem ss_one (h1 : SS S st ρ ms o) : SSs S [st] ρ ms o := .of (fun X hX => pss_one (ps_c hX st)) fun as σ H D s en k => h1 as σ H D s en k
theorem ss_ret (h : EE S e ρ ms r ms') : SS S (.Return (some e) pos) ρ ms (.rt r ms') := .of (fun X hX => ps_ret (pe_c hX e)) fun as σ H D s en k => h as σ H _ s en fun v H1 k1 s1 q1 => k as v H1 (.of k1) s1 q1
theorem ss_if {p q : List Stmt} (h : ET S c ρ ms t ms1) (h1 : t = true → SSs S p ρ ms1 o) (h0 : t = false → SSs S q ρ ms1 o) : SS S (.If c p q pos) ρ ms o :=
  .of (fun X hX => ps_if (pt_c hX c) (pss_c hX p) (pss_c hX q)) fun as σ H D s en k => h as σ H _ s en fun H1 k1 s1 => by
    cases t with
    | true => exact iteT (h1 rfl as σ H1 D s1 (en.kp k1) (k.back s s1 (.of k1)))
    | false => exact iteF (h0 rfl as σ H1 D s1 (en.kp k1) (k.back s s1 (.of k1)))
/-- if c: .. (rest); else: .. (rest) -/
theorem ss_ifc {p q : List Stmt} (h : ET S c ρ ms t ms1) (h1 : t = true → ((∃ ρ1 ms2, SSs S p ρ ms1 (.nx ρ1 ms2) ∧ SSs S rest ρ1 ms2 o) ∨ (o.isNx = false ∧ SSs S p ρ ms1 o)))
    (h0 : t = false → ((∃ ρ1 ms2, SSs S q ρ ms1 (.nx ρ1 ms2) ∧ SSs S rest ρ1 ms2 o) ∨ (o.isNx = false ∧ SSs S q ρ ms1 o))) : SSs S (.If c p q pos :: rest) ρ ms o := by
  cases t with
  | true =>
    rcases h1 rfl with ⟨ρ1, ms2, z1, z2⟩ | ⟨z1, z2⟩
    · exact ss_cons (ss_if h (fun _ => z1) (fun z => nomatch z)) z2
    · exact ss_out (ss_if h (fun _ => z2) (fun z => nomatch z)) z1
  | false =>
    rcases h0 rfl with ⟨ρ1, ms2, z1, z2⟩ | ⟨z1, z2⟩
    · exact ss_cons (ss_if h (fun z => nomatch z) (fun _ => z1)) z2
    · exact ss_out (ss_if h (fun z => nomatch z) (fun _ => z2)) z1

/-! ### stores to names -/
theorem EnvOk.set {v : V} {s' : Sl} (h : EnvOk K as H σ ρ) (q : SlOk K as H (some v) s') : EnvOk K as H (σ.set i (some v)) (ρ.set i s') := by
  refine ⟨by simp [h.1], fun j s o e1 e2 => ?_⟩
  by_cases hj : i = j
  · subst hj
    have hl : i < ρ.length := by
      have := (List.getElem?_eq_some_iff.mp e1).1
      simpa using this
    rw [List.getElem?_set_self hl] at e1
    rw [List.getElem?_set_self (by rw [h.1]; exact hl)] at e2
    cases e1; cases e2; exact q
  · rw [List.getElem?_set_ne hj] at e1 e2
    exact h.2 j s o e1 e2
theorem EnvOk.gr {bs : List Addr} (k : Kq as H H') (sb : ∃ l, bs = as ++ l ∧ ∀ p ∈ l, H p = none) (h : EnvOk K as H σ ρ) : EnvOk K bs H' σ ρ := ⟨h.1, fun i s o e1 e2 => by
  have q := h.2 i s o e1 e2
  obtain ⟨l, rfl, n⟩ := sb
  have sb' : ∀ q ∈ as ++ l, q ∈ as ∨ H q = none := fun q z => (List.mem_append.mp z).imp id (n q)
  cases s with
  | un => trivial
  | dat d => obtain ⟨v, e, q⟩ := q; exact ⟨v, e, R.chg k sb' _ _ q⟩
  | mu k' =>
    obtain ⟨a, e, q⟩ := q
    refine ⟨a, e, ?_⟩
    rw [List.getElem?_append_left (List.getElem?_eq_some_iff.mp q).1]
    exact q
  | scr ns =>
    obtain ⟨a, e, q⟩ := q
    exact ⟨a, e, q.chg k sb'⟩⟩

/-! ### targets -/
def cG (S : Sx) (tg : Expr) : TG := fun v σ H Q => ∃ g : TG, (∀ X, InS S X → PG X tg g) ∧ g v σ H Q
def cGs (S : Sx) (tgs : List Expr) : TGs := fun vs σ H Q => ∃ g : TGs, (∀ X, InS S X → PGs X tgs g) ∧ g vs σ H Q
theorem pg_c {X : Cx} (h : InS S X) (e : Expr) : PG X e (cG S e) := ⟨fun pins s σ H v u Q I r ⟨te, p, q⟩ => (p X h).run pins s σ H v u Q I r q⟩
theorem pgs_c {X : Cx} (h : InS S X) (e : List Expr) : PGs X e (cGs S e) := ⟨fun pins s σ H vs us Q I r ⟨te, p, q⟩ => (p X h).run pins s σ H vs us Q I r q⟩
def But (sl : List Nat) (σ σ' : L2.St) : Prop := σ'.length = σ.length ∧ ∀ i, i ∉ sl → σ'[i]? = σ[i]?
def EG (S : Sx) (tg : Expr) (d : D) (ρ ρ' : Env') (sl : List Nat) : Prop := ∀ (as : List Addr) (σ : L2.St) (H : Hp) (v : V) (Q : L2.St → Hp → Prop), EnvOk S.K as H σ ρ → R S.K as H v d → (∀ σ', EnvOk S.K as H σ' ρ' → But sl σ σ' → Q σ' H) → cG S tg v σ H Q
def EGs (S : Sx) (tgs : List Expr) (ds : List D) (ρ ρ' : Env') (sl : List Nat) : Prop := ∀ (as : List Addr) (σ : L2.St) (H : Hp) (vs : List V) (Q : L2.St → Hp → Prop), EnvOk S.K as H σ ρ → RA S.K as H vs ds → (∀ σ', EnvOk S.K as H σ' ρ' → But sl σ σ' → Q σ' H) → cGs S tgs vs σ H Q
variable {d : D} {ds : List D} {tg : Expr} {tgs es : List Expr}
theorem eg_name (i : Nat) (hN : S.N.Nodup) (hi : S.N[i]? = some x) (hx : Loc S.sc x) (hf : S.cl x = true ∨ S.sc.names.lookup x = some .local) : EG S (.Name x pos) d ρ (ρ.set i (.dat d)) [i] := fun as σ H v Q en r k =>
  ⟨gName i, fun X hX => pg_name (by rw [hX.n]; exact hN) (by rw [hX.n]; exact hi) (hX.loc hx) (hX.hf hf), k _ (en.set ⟨v, rfl, r⟩) ⟨by simp, fun j hj => List.getElem?_set_ne (fun z => hj (by simp [z]))⟩⟩
theorem egs_nil : EGs S [] [] ρ ρ [] := fun as σ H vs Q en r k => ⟨gNil, fun X hX => pgs_nil, by unfold RA at r; exact ⟨r, k σ en ⟨rfl, fun _ _ => rfl⟩⟩⟩
theorem egs_cons (ha : ∀ X : Cx, ∀ (t : TG) (u : TGs), PG X tg t → PGs X tgs u → PGs X (tg :: tgs) (gCons t u)) {sl1 sl2 : List Nat} (h1 : EG S tg d ρ ρ1 sl1) (h2 : EGs S tgs ds ρ1 ρ2 sl2) : EGs S (tg :: tgs) (d :: ds) ρ ρ2 (sl1 ++ sl2) := fun as σ H vs Q en r k =>
  ⟨gCons (cG S tg) (cGs S tgs), fun X hX => ha X _ _ (pg_c hX tg) (pgs_c hX tgs), by
    unfold RA at r
    obtain ⟨v, u, e, r1, r2⟩ := r
    exact ⟨v, u, e, h1 as σ H v _ en r1 fun σ1 en1 b1 => h2 as σ1 H u _ en1 r2 fun σ2 en2 b2 => k σ2 en2 ⟨b2.1.trans b1.1, fun i hi => (b2.2 i fun z => hi (List.mem_append_right _ z)).trans (b1.2 i fun z => hi (List.mem_append_left _ z))⟩⟩⟩
theorem eg_tup {k : Nat} (hn : ∀ env, (assignEach tgs env).length = ds.length) (hst : ∀ env, (assignEach tgs env).findIdx? (·.1) = none) {sl : List Nat} (h : EGs S tgs ds ρ ρ' sl) : EG S (.Tuple tgs k pos) (.tuple ds) ρ ρ' sl := fun as σ H v Q en r kk =>
  ⟨gTup S.K ds.length (cGs S tgs), fun X hX => by have h := pg_tup (k := k) (pos := pos) hX.calm (pgs_c hX tgs) (hn _) (hst _); rw [hX.k] at h; exact h, by
    unfold R at r
    obtain ⟨a, xs, e, t, ra⟩ := r
    exact ⟨a, xs, e, SqT.sp t, ra.length, h as σ H xs Q en ra kk⟩⟩
/-- a list unpacked into names -/
theorem eg_lst {k : Nat} (hn : ∀ env, (assignEach tgs env).length = ds.length) (hst : ∀ env, (assignEach tgs env).findIdx? (·.1) = none) {sl : List Nat} (h : EGs S tgs ds ρ ρ' sl) : EG S (.Tuple tgs k pos) (.list ds) ρ ρ' sl := fun as σ H v Q en r kk =>
  ⟨gUnl S.K ds.length (cGs S tgs), fun X hX => by have h := pg_unl (k := k) (pos := pos) hX.calm (pgs_c hX tgs) (hn _) (hst _); rw [hX.k] at h; exact h, by
    unfold R at r
    obtain ⟨a, xs, e, n, hx, ra⟩ := r
    exact ⟨a, xs, e, .inl (.inl hx), ra.length, h as σ H xs Q en ra kk⟩⟩
theorem ss_asg (hs : ∀ env, swapsWithSole [tg] e pos.line env = pure false) (hw : ∀ env, swappedStores [tg] e env = pure none) (h1 : ∀ env, (assignEach [tg] env).map (·.2) = [assign tg env])
    (he : EE S e ρ ms r ms') (hr : frz r = some d) {sl : List Nat} (hg : EG S tg d ρ ρ' sl) : SS S (.Assign [tg] e pos) ρ ms (.nx ρ' ms') :=
  .of (fun X hX => ps_asg (pe_c hX e) (pg_c hX tg) (hs _) (hw _) (h1 _)) fun as σ H D s en k => he as σ H _ s en fun v H1 k1 s1 q1 => hg as σ H1 v _ (en.kp k1) (q1.frz hr) fun σ' en' _ => k as σ' H1 (.of k1) s1 en'
theorem ss_set (i : Nat) {px : Pos} (hN : S.N.Nodup) (hi : S.N[i]? = some x) (hx : Loc S.sc x) (hf : S.cl x = true ∨ S.sc.names.lookup x = some .local) (hs : ∀ env, swapsWith e (some (.Name x px)) pos.line env = pure false)
    (he : EE S e ρ ms r ms') (hr : frz r = some d) : SS S (.Assign [.Name x px] e pos) ρ ms (.nx (ρ.set i (.dat d)) ms') :=
  .of (fun X hX => ps_set (by rw [hX.n]; exact hN) (by rw [hX.n]; exact hi) (hX.loc hx) (pe_c hX e) (hs _) (hX.hf hf)) fun as σ H D s en k => he as σ H _ s en fun v H1 k1 s1 q1 =>
    k as _ H1 (.of k1) s1 ((en.kp k1).set ⟨v, rfl, q1.frz hr⟩)
theorem SR.open {p : Addr} {xs : List V} (s : SR K as H1 ms) (hp : p ∉ as) (h : H1 p = some (.lst xs)) (q : RA K (p :: as) H1 xs ds) (hr : ∀ (k : Nat) (a : Addr) (es : List D), as[k]? = some a → ms[k]? = some es → ∃ xs, H1 a = some (.lst xs) ∧ RA K (p :: as) H1 xs es) : SR K (as ++ [p]) H1 (ms ++ [ds]) := by
  refine ⟨?_, by simp [s.2.1], fun k a es e1 e2 => ?_⟩
  · rw [List.nodup_append]
    refine ⟨s.1, by simp, fun a ha b hb e => ?_⟩
    have : b = p := by simpa using hb
    rw [e, this] at ha
    exact hp ha
  · by_cases hk : k < as.length
    · rw [List.getElem?_append_left hk] at e1
      rw [List.getElem?_append_left (by rw [← s.2.1]; exact hk)] at e2
      obtain ⟨xs, z1, z2⟩ := hr k a es e1 e2
      exact ⟨xs, z1, z2.sub fun q z => by simpa [or_comm] using z⟩
    · rw [List.getElem?_append_right (by omega)] at e1
      rw [List.getElem?_append_right (by rw [← s.2.1]; omega)] at e2
      have hk2 : k - as.length = 0 := by
        have := (List.getElem?_eq_some_iff.mp e1).1
        simp at this; omega
      rw [hk2] at e1
      rw [show k - ms.length = 0 by rw [← s.2.1]; exact hk2] at e2
      have e1 : p = a := by simpa using e1
      have e2 : ds = es := by simpa using e2
      subst e1 e2
      exact ⟨xs, h, q.sub fun q z => by simpa [or_comm] using z⟩
def flatD : D → Bool
  | .none | .bool _ | .int _ | .str _ => true
  | _ => false
theorem R.flat {bs : List Addr} {v : V} (k : D) (hk : flatD k = true) (h : R K as H v k) : R K bs H v k := by
  cases k <;> first | (cases hk; done) | (unfold R at h ⊢; exact h)
theorem RA.flat {bs : List Addr} : ∀ {ds : List D} {vs : List V}, ds.all flatD = true → RA K as H vs ds → RA K bs H vs ds
  | [], _, _, h => by unfold RA at h ⊢; exact h
  | d :: ds, _, hk, h => by
    rw [List.all_cons, Bool.and_eq_true] at hk
    unfold RA at h
    obtain ⟨v, r, rfl, h1, h2⟩ := h
    exact RA.cons (R.flat d hk.1 h1) (RA.flat hk.2 h2)
/-- a new list that no changeable list has -/
def EEq (S : Sx) (e : Expr) (ρ : Env') (ms : MS) (ds : List D) (ms' : MS) : Prop := ∀ (as : List Addr) (σ : L2.St) (H : Hp) (Q : VK), SR S.K as H ms → EnvOk S.K as H σ ρ →
  (∀ (p : Addr) (xs : List V) (H' : Hp), Kp (S.T as) H H' → SR S.K as H' ms' → H p = none → p ∉ as → H' p = some (.lst xs) → RA S.K (p :: as) H' xs ds →
    (∀ (k : Nat) (a : Addr) (es : List D), as[k]? = some a → ms'[k]? = some es → ∃ xs, H' a = some (.lst xs) ∧ RA S.K (p :: as) H' xs es) → Q (.ref p) H') → cE S e σ H Q
theorem eeq_of (he : EE S e ρ ms (.new ds) ms') (hm : ∀ (k : Nat) (es : List D), ms'[k]? = some es → es.all flatD = true ∨ (ms[k]? = some es ∧ ¬ (S.n0 ≤ k ∨ S.tch k = true))) : EEq S e ρ ms ds ms' := fun as σ H Q s en k =>
  he as σ H Q s en fun v H1 k1 s1 q1 => by
    obtain ⟨p, xs, rfl, hp0, np, hp, ra⟩ := q1
    refine k p xs H1 k1 s1 hp0 np hp ra fun k' a es e1 e2 => ?_
    obtain ⟨ys, z1, z2⟩ := s1.2.2 k' a es e1 e2
    rcases hm k' es e2 with w | ⟨w, nt⟩
    · exact ⟨ys, z1, RA.flat w z2⟩
    · obtain ⟨zs, w1, w2⟩ := s.2.2 k' a es e1 w
      refine ⟨zs, k1 a _ (fun ⟨j, ej, tj⟩ => ?_) w1, RA.chg k1.q (fun q z => (List.mem_cons.mp z).elim (fun e => .inr (by rw [e]; exact hp0)) .inl) _ _ w2⟩
      have e : j = k' := by
        have h1 := List.getElem?_eq_some_iff.mp ej
        have h2 := List.getElem?_eq_some_iff.mp e1
        exact (List.getElem_inj s.1).mp (h1.2.trans h2.2.symm)
      exact nt (e ▸ tj)
/-- what changes nothing at all -/
def EEp (S : Sx) (e : Expr) (ρ : Env') (ms : MS) (r : Rs) : Prop := ∀ (as : List Addr) (σ : L2.St) (H : Hp) (Q : VK), SR S.K as H ms → EnvOk S.K as H σ ρ →
  (∀ v H', Kp (fun _ => False) H H' → SR S.K as H' ms → RsOk S.K as H H' v r → Q v H') → cE S e σ H Q
def EAp (S : Sx) (es : List Expr) (ρ : Env') (ms : MS) (rs : List Rs) : Prop := ∀ (as : List Addr) (σ : L2.St) (H : Hp) (Q : List V → Hp → Prop), SR S.K as H ms → EnvOk S.K as H σ ρ →
  (∀ vs H', Kp (fun _ => False) H H' → SR S.K as H' ms → RsA S.K as H H' vs rs → Q vs H') → cA S es σ H Q
theorem EEp.ee (h : EEp S e ρ ms r) : EE S e ρ ms r ms := fun as σ H Q s en k => h as σ H Q s en fun v H1 k1 => k v H1 k1.f
theorem eeq_p (he : EEp S e ρ ms (.new ds)) : EEq S e ρ ms ds ms := fun as σ H Q s en k =>
  he as σ H Q s en fun v H1 k1 s1 q1 => by
    obtain ⟨p, xs, rfl, hp0, np, hp, ra⟩ := q1
    refine k p xs H1 k1.f s1 hp0 np hp ra fun k' a es e1 e2 => ?_
    obtain ⟨zs, w1, w2⟩ := s.2.2 k' a es e1 e2
    exact ⟨zs, k1 a _ (fun z => z) w1, RA.chg (k1.f (T := S.T as)).q (fun q z => (List.mem_cons.mp z).elim (fun e => .inr (by rw [e]; exact hp0)) .inl) _ _ w2⟩
theorem eep_int {i : Int} {j pos} : EEp S (.Constant (.int i) j pos) ρ ms (.dat (.int i)) := fun as σ H Q s en k => ⟨tC (.int i), fun _ _ => pe_int, k _ H .refl s rInt⟩
theorem eap_nil : EAp S [] ρ ms [] := fun as σ H Q s en k => ⟨tNil, fun _ _ => pa_nil, k [] H .refl s rfl⟩
theorem eap_cons {es : List Expr} {rs : List Rs} (hs : ∀ X : Cx, ∀ (te : TE) (tr : TA), PE X a te → PA X es tr → PA X (a :: es) (tCons te tr)) (ha : EEp S a ρ ms r) (hr : EAp S es ρ ms rs) : EAp S (a :: es) ρ ms (r :: rs) := fun as σ H Q s en k =>
  ⟨tCons (cE S a) (cA S es), fun X hX => hs X _ _ (pe_c hX a) (pa_c hX es), ha as σ H _ s en fun v H1 k1 s1 q1 => hr as σ H1 _ s1 (en.kp (k1.f (T := S.T as))) fun vs H2 k2 s2 q2 =>
    k _ H2 (k1.trans k2) s2 ⟨v, vs, rfl, q1.kp (k2.f (T := S.T as)), q2.back' s1 (k1.f (T := S.T as))⟩⟩
theorem eep_lst {es : List Expr} {rs : List Rs} {ds : List D} (h : EAp S es ρ ms rs) (hf : frzA rs = some ds) (hz : ds.length ≤ sizeLine) : EEp S (.List es pos) ρ ms (.new ds) := fun as σ H Q s en k =>
  ⟨tLst (cA S es), fun X hX => pe_lst (pa_c hX es), h as σ H _ s en fun vs H1 k1 s1 q => by
    have q := q.frz hf
    exact ⟨by rw [q.length]; exact hz, fun p hp => k _ _ (k1.trans (.new hp)) (s1.new hp) (.mkNew s1 (k1.f (T := S.T as)).q hp q)⟩⟩
theorem eep_tup {es : List Expr} {rs : List Rs} {ds : List D} {x1} (h : EAp S es ρ ms rs) (hf : frzA rs = some ds) (hz : ds.length ≤ sizeLine) : EEp S (.Tuple es x1 pos) ρ ms (.dat (.tuple ds)) := fun as σ H Q s en k =>
  ⟨tTup (cA S es), fun X hX => pe_tup (pa_c hX es), h as σ H _ s en fun vs H1 k1 s1 q => by
    have q := q.frz hf
    exact ⟨by rw [q.length]; exact hz, fun p hp => k _ _ (k1.trans (.new hp)) (s1.new hp) (.mkTup s1 hp q)⟩⟩
/-- x = a new list that will be changed -/
theorem open_ok {p : Addr} {xs : List V} {n : Nat} (s : SR S.K as H ms) (en : EnvOk S.K as H σ ρ) (k1 : Kp (S.T as) H H1) (s1 : SR S.K as H1 ms') (hp0 : H p = none) (np : p ∉ as) (hp : H1 p = some (.lst xs)) (ra : RA S.K (p :: as) H1 xs ds)
    (hr : ∀ (k : Nat) (a : Addr) (es : List D), as[k]? = some a → ms'[k]? = some es → ∃ xs, H1 a = some (.lst xs) ∧ RA S.K (p :: as) H1 xs es) (hn : ms'.length = n) :
    Gr S as H (as ++ [p]) H1 ∧ SR S.K (as ++ [p]) H1 (ms' ++ [ds]) ∧ EnvOk S.K (as ++ [p]) H1 σ ρ ∧ (as ++ [p])[n]? = some p := by
  refine ⟨⟨[p], rfl, fun q z => by rw [List.mem_singleton.mp z]; exact hp0, k1⟩, SR.open s1 np hp ra hr, en.gr k1.q ⟨[p], rfl, fun q z => by rw [List.mem_singleton.mp z]; exact hp0⟩, ?_⟩
  rw [List.getElem?_append_right (by rw [s1.2.1, hn]; exact Nat.le_refl _), s1.2.1, hn, Nat.sub_self]
  rfl
theorem ss_open (i : Nat) {px : Pos} (hN : S.N.Nodup) (hi : S.N[i]? = some x) (hx : Loc S.sc x) (hf : S.cl x = true ∨ S.sc.names.lookup x = some .local) (hs : ∀ env, swapsWith e (some (.Name x px)) pos.line env = pure false)
    (he : EEq S e ρ ms ds ms') (n : Nat) (hn : ms'.length = n) : SS S (.Assign [.Name x px] e pos) ρ ms (.nx (ρ.set i (.mu n)) (ms' ++ [ds])) :=
  .of (fun X hX => ps_set (by rw [hX.n]; exact hN) (by rw [hX.n]; exact hi) (hX.loc hx) (pe_c hX e) (hs _) (hX.hf hf)) fun as σ H En s en k => he as σ H _ s en fun p xs H1 k1 s1 hp0 np hp ra hr => by
    obtain ⟨g1, g2, g3, g4⟩ := open_ok s en k1 s1 hp0 np hp ra hr hn
    exact k (as ++ [p]) _ H1 g1 g2 (g3.set ⟨p, rfl, g4⟩)
end
end Abs
namespace Abs
open PySem PySem.Spec PyProof.Rows L2
section
variable {S : Sx} {K : PySem.W.Frag} {as as1 as2 : List Addr} {H H1 H2 H' : Hp} {ms ms1 ms2 ms3 ms' : MS} {ρ ρ1 ρ2 ρ' : Env'} {σ : L2.St} {e a b c : Expr} {es : List Expr} {r r' r1 r2 r3 : Rs} {rs : List Rs} {o : Out} {st : Stmt} {rest : List Stmt} {pos p : Pos} {t : Bool} {i j l : Nat} {x y z : Str} {En : Ends} {d d1 d2 d3 : D} {ds ds1 ds2 : List D}

/-! ### pure parts -/
theorem eep_var (i : Nat) (hN : S.N[i]? = some x) (hv : Vis S.sc x) (h : ρ[i]? = some (.dat d)) (hd : (x == ("__debug__" : Str)) = false := by decide) (hcd : (x == ("__classdict__" : Str)) = false := by decide) : EEp S (.Name x pos) ρ ms (.dat d) := fun as σ H Q s en k =>
  ⟨tVar i, fun X hX => pe_var (by rw [hX.n]; exact hN) (hX.vis hv) hd hcd, by
    have hl : i < σ.length := by rw [en.1]; exact (List.getElem?_eq_some_iff.mp h).1
    obtain ⟨v, e, q⟩ := en.2 i _ _ h (List.getElem?_eq_getElem hl)
    exact ⟨v, by rw [List.getElem?_eq_getElem hl, e], k v H .refl s q⟩⟩
theorem eep_cty {T : String} {rr : List V → Hp → VK → Prop} (hc : ∀ X, InS S X → CallR X (.type T) rr) (hm : S.mg x = none) (hg : S.sc.names.lookup x = some .globalImplicit) (hv : bootBuiltins x = some (.type T)) (h : CrOk S rr rs ms r3)
    (ha : EAp S (e :: es) ρ ms rs) (hn : x ≠ "__name__" := by decide) (hdb : (x == ("__debug__" : Str)) = false := by decide)
    (he : ∀ env, starEach (e :: es) env = (false, eval e env) :: starEach es env := by intro _; rfl) (hpl : ∀ env, (backTo pos (starEach es env)).any (·.1) = false := by intro _; rfl) : EEp S (.Call (.Name x p) (e :: es) [] pos) ρ ms r3 := fun as σ H Q s en k =>
  ⟨tCB rr (cA S (e :: es)), fun X hX => pe_callTy (hc X hX) (hX.gl hg) (by rw [hX.mg]; exact hm) hv (pa_c hX _) hn hdb (he _) (hpl _), ha as σ H _ s en fun vs H1 k1 s1 q1 => h as H H1 vs s1 q1 Q fun v H2 k2 s2 q2 => k v H2 (k1.trans k2) s2 (q2.back' s1 (k1.f (T := S.T as)))⟩
theorem eep_call {k : Nat} {F : Rel} (Kf : KnS S k x F) (hk : k ≤ S.k) (hg : S.sc.names.lookup x = some .globalImplicit) (ha : EAp S (e :: es) ρ ms rs) (hF : F (rs.map arg) ms r ms) (ht : ∀ j, ¬ Rs.mu j ∈ rs.map arg)
    (hd : (x == ("__debug__" : Str)) = false := by decide) (he : ∀ env, starEach (e :: es) env = (false, eval e env) :: starEach es env := by intro _; rfl) (hpl : ∀ env, (backTo pos (starEach es env)).any (·.1) = false := by intro _; rfl) :
    EEp S (.Call (.Name x p) (e :: es) [] pos) ρ ms r := by
  obtain ⟨f, F1, hm, hkp⟩ := Kf.ex
  refine fun as σ H Q s en kk => ⟨fun σ H Q => cA S (e :: es) σ H fun vs H1 => spR S.K F vs H1 Q E0, fun X hX => ?_, ha as σ H _ s en fun vs H1 k1 s1 q1 => ?_⟩
  · refine pe_callR (k := k) (f := f) (CX := CX0) ?_ (hX.room.mono hk) (hX.gl hg) (by rw [hX.mg]; exact hm) (by rw [hX.k]; exact hkp) pass0 (pa_c hX _) (by assumption) (he _) (hpl _)
    rw [hX.p, hX.w, hX.k, hX.mg, hX.base]
    exact F1
  · exact ⟨as, ms, rs.map arg, r, ms, s1, q1.arg, hF, fun v H2 k2 s2 q2 => kk v H2 (k1.trans fun b o _ e => k2 b o (fun ⟨j, z, w⟩ => ht j w) e) s2 (q2.back' s1 (k1.f (T := S.T as)))⟩

theorem EnvOk.setD {v : V} (h : EnvOk K as H σ ρ) (q : R K as H v d) : EnvOk K as H (σ.set i (some v)) (ρ.set i (.dat d)) := h.set ⟨v, rfl, q⟩
theorem EnvOk.setM {p : Addr} {n : Nat} (h : EnvOk K as H σ ρ) (q : as[n]? = some p) : EnvOk K as H (σ.set i (some (.ref p))) (ρ.set i (.mu n)) := h.set ⟨p, rfl, q⟩
/-! ### a, b = .., a, b, c = .. -/
def swOk (S : Sx) (tg : Expr) (e : Expr) (nm : List Str) : Prop := ∀ X, InS S X → swappedStores [tg] e X.env = pure (some nm)
theorem ss_par {px py pt : Pos} {kt k2 pt2} (i j : Nat) (hN : S.N.Nodup) (hi : S.N[i]? = some x) (hj : S.N[j]? = some y) (hij : i ≠ j) (hx : S.sc.names.lookup x = some .local) (hy : S.sc.names.lookup y = some .local)
    (hw : swOk S (.Tuple [.Name x px, .Name y py] kt pt) (.Tuple [a, b] k2 pt2) [x, y]) (ha : EA S [a, b] ρ ms [r1, r2] ms') (h1 : frz r1 = some d1) (h2 : frz r2 = some d2) :
    SS S (.Assign [.Tuple [.Name x px, .Name y py] kt pt] (.Tuple [a, b] k2 pt2) pos) ρ ms (.nx ((ρ.set i (.dat d1)).set j (.dat d2)) ms') :=
  .of (fun X hX => ps_par hX.calm (by rw [hX.n]; exact hN) (by rw [hX.n]; exact hi) (by rw [hX.n]; exact hj) hij (by rw [hX.sc]; exact hx) (by rw [hX.sc]; exact hy) (pa_c hX _) (hw X hX)) fun as σ H En s en k =>
    ha as σ H _ s en fun vs H1 k1 s1 q1 => by
      obtain ⟨v, u, rfl, q1, q2⟩ := rs2 q1
      exact ⟨v, u, rfl, k as _ H1 (.of k1) s1 (((en.kp k1).setD (q1.frz h1)).setD (q2.frz h2))⟩
theorem ss_par3 {px py pz pt : Pos} {kt k2 pt2} (i j l : Nat) (hN : S.N.Nodup) (hi : S.N[i]? = some x) (hj : S.N[j]? = some y) (hl : S.N[l]? = some z) (hij : i ≠ j) (hil : i ≠ l) (hjl : j ≠ l)
    (hx : S.sc.names.lookup x = some .local) (hy : S.sc.names.lookup y = some .local) (hz : S.sc.names.lookup z = some .local)
    (hw : swOk S (.Tuple [.Name x px, .Name y py, .Name z pz] kt pt) (.Tuple [a, b, c] k2 pt2) [x, y, z]) (ha : EA S [a, b, c] ρ ms [r1, r2, r3] ms') (h1 : frz r1 = some d1) (h2 : frz r2 = some d2) (h3 : frz r3 = some d3) :
    SS S (.Assign [.Tuple [.Name x px, .Name y py, .Name z pz] kt pt] (.Tuple [a, b, c] k2 pt2) pos) ρ ms (.nx (((ρ.set i (.dat d1)).set j (.dat d2)).set l (.dat d3)) ms') :=
  .of (fun X hX => L2.ps_par3 hX.calm (by rw [hX.n]; exact hN) (by rw [hX.n]; exact hi) (by rw [hX.n]; exact hj) (by rw [hX.n]; exact hl) hij hil hjl (by rw [hX.sc]; exact hx) (by rw [hX.sc]; exact hy) (by rw [hX.sc]; exact hz) (pa_c hX _) (hw X hX)) fun as σ H En s en k =>
    ha as σ H _ s en fun vs H1 k1 s1 q1 => by
      obtain ⟨v, u, rfl, q1, q'⟩ := q1
      obtain ⟨w, w2, rfl, q2, q3⟩ := rs2 q'
      exact ⟨v, w, w2, rfl, k as _ H1 (.of k1) s1 ((((en.kp k1).setD (q1.frz h1)).setD (q2.frz h2)).setD (q3.frz h3))⟩
theorem RA.cons_guard {p : Addr} {vs : List V} (k : Kp (fun _ => False) H H') (hp : H p = none) (h : RA K as H vs ds) : RA K (p :: as) H' vs ds :=
  RA.chg (as := as) (fun b o _ e => k b o (fun z => z) e) (fun q z => (List.mem_cons.mp z).elim (fun e => .inr (by rw [e]; exact hp)) .inl) _ _ h
theorem SR.guard {p : Addr} (k : Kp (fun _ => False) H H') (hp : H p = none) (s : SR K as H ms) : ∀ (k : Nat) (a : Addr) (es : List D), as[k]? = some a → ms[k]? = some es → ∃ xs, H' a = some (.lst xs) ∧ RA K (p :: as) H' xs es := fun k' a es e1 e2 => by
  obtain ⟨zs, w1, w2⟩ := s.2.2 k' a es e1 e2
  exact ⟨zs, k a _ (fun z => z) w1, w2.cons_guard k hp⟩
theorem RA.keep {bs : List Addr} {vs : List V} (k : Kp (fun _ => False) H H') (h : RA K bs H vs ds) : RA K bs H' vs ds := RA.kq (fun b o _ e => k b o (fun z => z) e) h
/-- the first one a list that will be changed, the second one a scalar -/
theorem ss_par_od {px py pt : Pos} {kt k2 pt2} (i j : Nat) (hN : S.N.Nodup) (hi : S.N[i]? = some x) (hj : S.N[j]? = some y) (hij : i ≠ j) (hx : S.sc.names.lookup x = some .local) (hy : S.sc.names.lookup y = some .local)
    (hw : swOk S (.Tuple [.Name x px, .Name y py] kt pt) (.Tuple [a, b] k2 pt2) [x, y]) (hs : ∀ X : Cx, ∀ t u : TE, PE X a t → PE X b u → PA X [a, b] (tCons t (tCons u tNil)))
    (ha : EEp S a ρ ms (.new ds)) (hb : EEp S b ρ ms (.dat d2)) (h2 : flatD d2 = true) (n : Nat) (hn : ms.length = n) :
    SS S (.Assign [.Tuple [.Name x px, .Name y py] kt pt] (.Tuple [a, b] k2 pt2) pos) ρ ms (.nx ((ρ.set i (.mu n)).set j (.dat d2)) (ms ++ [ds])) :=
  .of (fun X hX => ps_par hX.calm (by rw [hX.n]; exact hN) (by rw [hX.n]; exact hi) (by rw [hX.n]; exact hj) hij (by rw [hX.sc]; exact hx) (by rw [hX.sc]; exact hy) (hs X _ _ (pe_c hX a) (pe_c hX b)) (hw X hX)) fun as σ H En s en k =>
    ha as σ H _ s en fun v H1 k1 s1 q1 => hb as σ H1 _ s1 (en.kp (k1.f (T := S.T as))) fun u H2 k2 s2 q2 => by
      obtain ⟨p, xs, rfl, hp0, np, hp, ra⟩ := q1
      have kk : Kp (fun _ => False) H H2 := k1.trans k2
      obtain ⟨g1, g2, g3, g4⟩ := open_ok (ds := ds) s en (kk.f) s2 hp0 np (k2 p _ (fun z => z) hp) (ra.keep k2) (s.guard kk hp0) hn
      exact ⟨.ref p, u, rfl, k (as ++ [p]) _ H2 g1 g2 ((g3.setM g4).setD (R.flat _ h2 q2))⟩
/-- the second one a list that will be changed -/
theorem ss_par_do {px py pt : Pos} {kt k2 pt2} (i j : Nat) (hN : S.N.Nodup) (hi : S.N[i]? = some x) (hj : S.N[j]? = some y) (hij : i ≠ j) (hx : S.sc.names.lookup x = some .local) (hy : S.sc.names.lookup y = some .local)
    (hw : swOk S (.Tuple [.Name x px, .Name y py] kt pt) (.Tuple [a, b] k2 pt2) [x, y]) (hs : ∀ X : Cx, ∀ t u : TE, PE X a t → PE X b u → PA X [a, b] (tCons t (tCons u tNil)))
    (ha : EE S a ρ ms r1 ms1) (h1 : frz r1 = some d1) (hb : EEp S b ρ ms1 (.new ds)) (n : Nat) (hn : ms1.length = n) :
    SS S (.Assign [.Tuple [.Name x px, .Name y py] kt pt] (.Tuple [a, b] k2 pt2) pos) ρ ms (.nx ((ρ.set i (.dat d1)).set j (.mu n)) (ms1 ++ [ds])) :=
  .of (fun X hX => ps_par hX.calm (by rw [hX.n]; exact hN) (by rw [hX.n]; exact hi) (by rw [hX.n]; exact hj) hij (by rw [hX.sc]; exact hx) (by rw [hX.sc]; exact hy) (hs X _ _ (pe_c hX a) (pe_c hX b)) (hw X hX)) fun as σ H En s en k =>
    ha as σ H _ s en fun v H1 k1 s1 q1 => hb as σ H1 _ s1 (en.kp k1) fun u H2 k2 s2 q2 => by
      obtain ⟨p, xs, rfl, hp0, np, hp, ra⟩ := q2
      obtain ⟨g1, g2, g3, g4⟩ := open_ok (ds := ds) s1 (en.kp k1) (k2.f) s2 hp0 np hp ra (s1.guard k2 hp0) hn
      refine ⟨v, .ref p, rfl, k (as ++ [p]) _ H2 (Gr.trans s s1 (.of k1) g1) g2 ((g3.setD (R.chg (as := as) (fun b o _ e => k2 b o (fun z => z) e) (fun q z => ?_) _ _ (q1.frz h1))).setM g4)⟩
      rcases List.mem_append.mp z with z | z
      · exact .inl z
      · rw [List.mem_singleton.mp z]; exact .inr hp0
/-- both lists that will be changed, the second one of scalars (empty) -/
theorem ss_par_oo {px py pt : Pos} {kt k2 pt2} (i j : Nat) (hN : S.N.Nodup) (hi : S.N[i]? = some x) (hj : S.N[j]? = some y) (hij : i ≠ j) (hx : S.sc.names.lookup x = some .local) (hy : S.sc.names.lookup y = some .local)
    (hw : swOk S (.Tuple [.Name x px, .Name y py] kt pt) (.Tuple [a, b] k2 pt2) [x, y]) (hs : ∀ X : Cx, ∀ t u : TE, PE X a t → PE X b u → PA X [a, b] (tCons t (tCons u tNil)))
    (ha : EEp S a ρ ms (.new ds1)) (hb : EEp S b ρ ms (.new ds2)) (h2 : ds2.all flatD = true) (n m : Nat) (hn : ms.length = n) (hm : ms.length + 1 = m) :
    SS S (.Assign [.Tuple [.Name x px, .Name y py] kt pt] (.Tuple [a, b] k2 pt2) pos) ρ ms (.nx ((ρ.set i (.mu n)).set j (.mu m)) (ms ++ [ds1, ds2])) :=
  .of (fun X hX => ps_par hX.calm (by rw [hX.n]; exact hN) (by rw [hX.n]; exact hi) (by rw [hX.n]; exact hj) hij (by rw [hX.sc]; exact hx) (by rw [hX.sc]; exact hy) (hs X _ _ (pe_c hX a) (pe_c hX b)) (hw X hX)) fun as σ H En s en k =>
    ha as σ H _ s en fun v H1 k1 s1 q1 => hb as σ H1 _ s1 (en.kp (k1.f (T := S.T as))) fun u H2 k2 s2 q2 => by
      obtain ⟨p, xs, rfl, hp0, np, hp, ra⟩ := q1
      obtain ⟨p2, ys, rfl, hp20, np2, hp2, ra2⟩ := q2
      have kk : Kp (fun _ => False) H H2 := k1.trans k2
      have hne : p2 ≠ p := fun z => by rw [z, hp] at hp20; cases hp20
      obtain ⟨g1, g2, g3, g4⟩ := open_ok (ds := ds1) s en (k1.f) s1 hp0 np hp ra (s.guard k1 hp0) hn
      have g5 := SR.open s2 np (k2 p _ (fun z => z) hp) (ra.keep k2) (s.guard kk hp0)
      have hnp2 : p2 ∉ as ++ [p] := fun z => (List.mem_append.mp z).elim np2 fun z => hne (List.mem_singleton.mp z)
      have g6 := SR.open (ds := ds2) g5 hnp2 hp2 (RA.flat h2 ra2) (g2.guard k2 hp20)
      have hH : H p2 = none := fresh_back s1 (k1.f (T := S.T as)).q hp20
      have g7 : EnvOk S.K (as ++ [p] ++ [p2]) H2 σ ρ := g3.gr (fun b o _ e => k2 b o (fun z => z) e) ⟨[p2], rfl, fun q z => by rw [List.mem_singleton.mp z]; exact hp20⟩
      have e1 : (as ++ [p] ++ [p2])[n]? = some p := by
        rw [List.getElem?_append_left (List.getElem?_eq_some_iff.mp g4).1]; exact g4
      have e2 : (as ++ [p] ++ [p2])[m]? = some p2 := by
        have hl : (as ++ [p]).length = m := by rw [List.length_append, s.2.1]; simpa using hm
        rw [List.getElem?_append_right (by omega), hl, Nat.sub_self]; rfl
      refine ⟨.ref p, .ref p2, rfl, k (as ++ [p, p2]) _ H2 ⟨[p, p2], rfl, fun q z => ?_, kk.f⟩ ?_ ?_⟩
      · rcases List.mem_cons.mp z with z | z
        · rw [z]; exact hp0
        · rw [List.mem_singleton.mp z]; exact hH
      · have g6 := g6
        rw [List.append_assoc, List.append_assoc] at g6
        exact g6
      · have g8 := (g7.setM (i := i) e1).setM (i := j) e2
        rw [List.append_assoc] at g8
        exact g8

/-! ### x op= e, x[i] = e, a statement e -/
theorem ss_aug {op : Operator} {g : Int → Int → Int} {u v : Int} {px : Pos} (i : Nat) (hN : S.N.Nodup) (hi : S.N[i]? = some x) (hx : Loc S.sc x) (hf : S.cl x = true ∨ S.sc.names.lookup x = some .local) (ho : ∀ X : Cx, PIp X op (ipI g))
    (hρ : ρ[i]? = some (.dat (.int u))) (he : EE S e ρ ms (.dat (.int v)) ms') : SS S (.AugAssign (.Name x px) op e pos) ρ ms (.nx (ρ.set i (.dat (.int (g u v)))) ms') :=
  .of (fun X hX => ps_aug (by rw [hX.n]; exact hN) (by rw [hX.n]; exact hi) (hX.loc hx) (pe_c hX e) (ho X) (hX.hf hf)) fun as σ H En s en k => by
    have hl : i < σ.length := by rw [en.1]; exact (List.getElem?_eq_some_iff.mp hρ).1
    obtain ⟨w, e1, q⟩ := en.2 i _ _ hρ (List.getElem?_eq_getElem hl)
    unfold R at q
    refine ⟨w, by rw [List.getElem?_eq_getElem hl, e1], he as σ H _ s en fun v' H1 k1 s1 q1 => ?_⟩
    exact ⟨u, v, q, q1.int, k as _ H1 (.of k1) s1 ((en.kp k1).setD (by unfold R; rfl))⟩
theorem ss_drop (hs : ∀ env, swapsWith e none pos.line env = pure false) (he : EE S e ρ ms r ms') : SS S (.Expr e pos) ρ ms (.nx ρ ms') :=
  .of (fun X hX => ps_expr (pe_c hX e) (hs _)) fun as σ H En s en k => he as σ H _ s en fun v H1 k1 s1 q1 => k as σ H1 (.of k1) s1 (en.kp k1)
theorem SR.set {k : Nat} {a : Addr} {vs : List V} (s : SR K as H ms) (hk : as[k]? = some a) (ra : RA K as H vs ds) : SR K as (upd H a (.lst vs)) (ms.set k ds) := by
  have hmem : a ∈ as := List.mem_of_getElem? hk
  have kq : Kq as H (upd H a (.lst vs)) := .mut hmem
  refine ⟨s.1, by rw [List.length_set]; exact s.2.1, fun j b es e1 e2 => ?_⟩
  by_cases hj : k = j
  · subst hj
    rw [hk] at e1; cases e1
    have hl : k < ms.length := by rw [← s.2.1]; exact (List.getElem?_eq_some_iff.mp hk).1
    rw [List.getElem?_set_self hl] at e2
    cases e2
    exact ⟨vs, upd_same, ra.kq kq⟩
  · rw [List.getElem?_set_ne hj] at e2
    obtain ⟨xs, z1, z2⟩ := s.2.2 j b es e1 e2
    refine ⟨xs, ?_, z2.kq kq⟩
    rw [upd_ne (fun z => ?_)]
    · exact z1
    · subst z
      have h1 := List.getElem?_eq_some_iff.mp hk
      have h2 := List.getElem?_eq_some_iff.mp e1
      exact hj ((List.getElem_inj s.1).mp (h1.2.trans h2.2.symm))
/-- x[i] = e of a changeable list -/
theorem ss_setItem {k : Nat} {u : Int} {m : Nat} {ps : Pos} {ox ix : Expr} (hs : ∀ env, swapsWithSole [.Subscript ox ix ps] e pos.line env = pure false) (hw : ∀ env, swappedStores [.Subscript ox ix ps] e env = pure none) (h1 : ∀ env, (assignEach [.Subscript ox ix ps] env).map (·.2) = [assign (.Subscript ox ix ps) env])
    (hsub : ∀ X : Cx, ∀ to ti : TE, PE X ox to → PE X ix ti → PG X (.Subscript ox ix ps) (gSub to ti rSetL)) (he : EE S e ρ ms r ms1) (hr : frz r = some d) (ho : EE S ox ρ ms1 (.mu k) ms1) (hi : EE S ix ρ ms1 (.dat (.int u)) ms1) (hk : ms1[k]? = some ds) (hm : ixN ds.length u = some m) (ht : S.n0 ≤ k ∨ S.tch k = true) :
    SS S (.Assign [.Subscript ox ix ps] e pos) ρ ms (.nx ρ (ms1.set k (ds.set m d))) :=
  .of (ts := tAsg (cE S e) (gSub (cE S ox) (cE S ix) rSetL)) (fun X hX => ps_asg (pe_c hX e) (hsub X _ _ (pe_c hX ox) (pe_c hX ix)) (hs _) (hw _) (h1 _)) fun as σ H En s en kk => he as σ H _ s en fun v H1 k1 s1 q1 =>
    ho as σ H1 _ s1 (en.kp k1) fun v2 H2 k2 s2 q2 => hi as σ H2 _ s2 (en.kp (k1.trans k2)) fun v3 H3 k3 s3 q3 => by
      obtain ⟨a, rfl, ha⟩ := q2
      obtain ⟨xs, z1, z2⟩ := s3.2.2 k a ds ha hk
      have hq := (q1.frz hr).kp (k2.trans k3)
      refine ⟨a, xs, u, m, rfl, q3.int, z1, by rw [z2.length]; exact hm, ?_⟩
      exact kk as σ _ (.of (((k1.trans k2).trans k3).trans (.mut ⟨k, ha, ht⟩))) (s3.set ha (RA.set m z2 hq)) (en.kp (((k1.trans k2).trans k3).trans (.mut ⟨k, ha, ht⟩)))
/-! ### methods of changeable lists -/
theorem bm_list {a : Addr} {xs : List V} (h : H a = some (.lst xs)) : tyV K "list" (.ref a) H := Or.inl ⟨rfl, _, Or.inl (Or.inl h)⟩
variable {ox : Expr} {ap : Pos} {k : Nat}
theorem ee_append (hb : ∀ X : Cx, ∀ (to : TE) (ta : TA), PE X ox to → PA X [e] ta → PE X (.Call (.Attribute ox "append" ap) [e] [] pos) (tBM X.K "list" rAppend to ta)) (ho : EE S ox ρ ms (.mu k) ms) (ha : EA S [e] ρ ms [r] ms1) (hr : frz r = some d)
    (hk : ms1[k]? = some ds) (hz : ds.length < sizeLine) (ht : S.n0 ≤ k ∨ S.tch k = true) : EE S (.Call (.Attribute ox "append" ap) [e] [] pos) ρ ms (.dat .none) (ms1.set k (ds ++ [d])) :=
  .of (te := tBM S.K "list" rAppend (cE S ox) (cA S [e])) (fun X hX => by have h := hb X _ _ (pe_c hX ox) (pa_c hX [e]); rw [hX.k] at h; exact h) fun as σ H Q s en kk => ho as σ H _ s en fun v H1 k1 s1 q1 => by
    obtain ⟨a, rfl, hka⟩ := q1
    obtain ⟨hl, _⟩ := List.getElem?_eq_some_iff.mp hka
    obtain ⟨xs0, w1, _⟩ := s1.2.2 k a (ms[k]'(by rw [← s1.2.1]; exact hl)) hka (List.getElem?_eq_getElem _)
    refine ⟨bm_list w1, ha as σ H1 _ s1 (en.kp k1) fun vs H2 k2 s2 q2 => ?_⟩
    obtain ⟨v, rfl, q3⟩ := rs1 q2
    obtain ⟨xs, z1, z2⟩ := s2.2.2 k a ds hka hk
    refine ⟨a, xs, v, rfl, rfl, z1, by rw [z2.length]; exact hz, ?_⟩
    exact kk .non _ ((k1.trans k2).trans (.mut ⟨k, hka, ht⟩)) (s2.set hka (z2.app (RA.cons (q3.frz hr) RA.nil))) (by unfold RsOk R; rfl)
theorem ee_extend (hb : ∀ X : Cx, ∀ (to : TE) (ta : TA), PE X ox to → PA X [e] ta → PE X (.Call (.Attribute ox "extend" ap) [e] [] pos) (tBM X.K "list" rExtend to ta)) (ho : EE S ox ρ ms (.mu k) ms) (ha : EA S [e] ρ ms [.new ds2] ms1)
    (hk : ms1[k]? = some ds) (hz : ds.length + ds2.length ≤ sizeLine) (ht : S.n0 ≤ k ∨ S.tch k = true) : EE S (.Call (.Attribute ox "extend" ap) [e] [] pos) ρ ms (.dat .none) (ms1.set k (ds ++ ds2)) :=
  .of (te := tBM S.K "list" rExtend (cE S ox) (cA S [e])) (fun X hX => by have h := hb X _ _ (pe_c hX ox) (pa_c hX [e]); rw [hX.k] at h; exact h) fun as σ H Q s en kk => ho as σ H _ s en fun v H1 k1 s1 q1 => by
    obtain ⟨a, rfl, hka⟩ := q1
    obtain ⟨hl, _⟩ := List.getElem?_eq_some_iff.mp hka
    obtain ⟨xs0, w1, _⟩ := s1.2.2 k a (ms[k]'(by rw [← s1.2.1]; exact hl)) hka (List.getElem?_eq_getElem _)
    refine ⟨bm_list w1, ha as σ H1 _ s1 (en.kp k1) fun vs H2 k2 s2 q2 => ?_⟩
    obtain ⟨v, rfl, q3⟩ := rs1 q2
    obtain ⟨p, ys, rfl, hp0, np, hp, ra⟩ := q3
    obtain ⟨xs, z1, z2⟩ := s2.2.2 k a ds hka hk
    refine ⟨a, p, xs, ys, rfl, rfl, z1, hp, by rw [z2.length, ra.length]; exact hz, ?_⟩
    exact kk .non _ ((k1.trans k2).trans (.mut ⟨k, hka, ht⟩)) (s2.set hka (z2.app (RA.sub (fun q z => List.mem_cons_of_mem _ z) ra))) (by unfold RsOk R; rfl)
theorem ee_popAt {u : Int} {m : Nat} (hb : ∀ X : Cx, ∀ (to : TE) (ta : TA), PE X ox to → PA X [e] ta → PE X (.Call (.Attribute ox "pop" ap) [e] [] pos) (tBM X.K "list" rPopAt to ta)) (ho : EE S ox ρ ms (.mu k) ms) (ha : EA S [e] ρ ms [.dat (.int u)] ms1)
    (hk : ms1[k]? = some ds) (hu : -(2 ^ 63) ≤ u ∧ u < 2 ^ 63) (hm : seqIndex? u ds.length = some m) (hd : ds[m]? = some d) (ht : S.n0 ≤ k ∨ S.tch k = true) : EE S (.Call (.Attribute ox "pop" ap) [e] [] pos) ρ ms (.dat d) (ms1.set k (ds.eraseIdx m)) :=
  .of (te := tBM S.K "list" rPopAt (cE S ox) (cA S [e])) (fun X hX => by have h := hb X _ _ (pe_c hX ox) (pa_c hX [e]); rw [hX.k] at h; exact h) fun as σ H Q s en kk => ho as σ H _ s en fun v H1 k1 s1 q1 => by
    obtain ⟨a, rfl, hka⟩ := q1
    obtain ⟨hl, _⟩ := List.getElem?_eq_some_iff.mp hka
    obtain ⟨xs0, w1, _⟩ := s1.2.2 k a (ms[k]'(by rw [← s1.2.1]; exact hl)) hka (List.getElem?_eq_getElem _)
    refine ⟨bm_list w1, ha as σ H1 _ s1 (en.kp k1) fun vs H2 k2 s2 q2 => ?_⟩
    obtain ⟨v, rfl, q3⟩ := rs1 q2
    obtain ⟨xs, z1, z2⟩ := s2.2.2 k a ds hka hk
    obtain ⟨y, y1, y2⟩ := z2.get hd
    refine ⟨a, xs, u, m, y, rfl, by rw [q3.int], z1, hu.1, hu.2, by rw [z2.length]; exact hm, y1, ?_⟩
    have kq : Kq as H2 (upd H2 a (.lst (xs.eraseIdx m))) := .mut (List.mem_of_getElem? hka)
    refine kk y _ ((k1.trans k2).trans (.mut ⟨k, hka, ht⟩)) (s2.set hka ?_) (show R S.K as _ y d from y2.kq kq)
    rw [List.eraseIdx_eq_take_drop_succ, List.eraseIdx_eq_take_drop_succ]
    exact (z2.take m).app (z2.drop (m + 1))

/-! ### def bodies -/
def slOf : Rs → Sl
  | .dat d => .dat d
  | .mu k => .mu k
  | .scr ns => .scr ns
  | _ => .un
theorem env_start {N : List Str} {vs : List V} : ∀ {rs : List Rs} , RsA K as H H vs rs → vs.length ≤ N.length → EnvOk K as H (L2.start N vs) (rs.map slOf ++ List.replicate (N.length - rs.length) .un) := by
  intro rs h hl
  have hlen := h.length
  refine ⟨by unfold L2.start; simp [hlen], fun i s o e1 e2 => ?_⟩
  by_cases hi : i < rs.length
  · have : ∀ {rs : List Rs} {vs : List V} (i : Nat) (s : Sl) (v : V), RsA K as H H vs rs → (rs.map slOf)[i]? = some s → vs[i]? = some v → SlOk K as H (some v) s := by
      intro rs
      induction rs with
      | nil => intro vs i s v _ e; simp at e
      | cons r rs ih =>
        intro vs i s v h e1 e2
        obtain ⟨w, u, rfl, q, q2⟩ := h
        cases i with
        | zero =>
          have e1 : slOf r = s := by simpa using e1
          have e2 : w = v := by simpa using e2
          subst e1 e2
          cases r with
          | dat d => exact ⟨w, rfl, q⟩
          | mu k => obtain ⟨a, rfl, ha⟩ := q; exact ⟨a, rfl, ha⟩
          | scr ns => obtain ⟨a, rfl, ha⟩ := q; exact ⟨a, rfl, ha⟩
          | new ds => trivial
          | ty T => trivial
        | succ i => exact ih i s v q2 (by simpa using e1) (by simpa using e2)
    rw [List.getElem?_append_left (by simpa using hi)] at e1
    unfold L2.start at e2
    rw [List.getElem?_append_left (by simpa [hlen] using hi), List.getElem?_map] at e2
    cases q : vs[i]? with
    | none => rw [q] at e2; cases e2
    | some v =>
      rw [q] at e2
      cases e2
      exact this i s v h e1 q
  · rw [List.getElem?_append_right (by simp; omega)] at e1
    have : s = .un := (List.mem_replicate.mp (List.mem_of_getElem? e1)).2
    subst this
    trivial
/-- how a body ends: what the caller is told -/
inductive Fin (ms' : MS) : Out → Rs → Prop
  | dat {d : D} {ex : MS} : Fin ms' (.rt (.dat d) (ms' ++ ex)) (.dat d)
  | new {ds : List D} {ex : MS} : Fin ms' (.rt (.new ds) (ms' ++ ex)) (.new ds)
  | newd {ds : List D} {ex : MS} : Fin ms' (.rt (.new ds) (ms' ++ ex)) (.dat (.list ds))
  | mu {ds : List D} {ex : MS} {j : Nat} : (ms' ++ ex)[j]? = some ds → ms'.length ≤ j → Fin ms' (.rt (.mu j) (ms' ++ ex)) (.new ds)
  | none {ρ : Env'} {ex : MS} : Fin ms' (.nx ρ (ms' ++ ex)) (.dat .none)
theorem SR.close {l : List Addr} {ex : MS} (s : SR K (as ++ l) H (ms ++ ex)) (hl : as.length = ms.length) : SR K as H ms := by
  refine ⟨(List.nodup_append.mp s.1).1, hl, fun k a ds e1 e2 => ?_⟩
  have h1 := (List.getElem?_eq_some_iff.mp e1).1
  have h2 := (List.getElem?_eq_some_iff.mp e2).1
  obtain ⟨xs, z1, z2⟩ := s.2.2 k a ds (by rw [List.getElem?_append_left h1]; exact e1) (by rw [List.getElem?_append_left h2]; exact e2)
  exact ⟨xs, z1, RA.sub (fun q z => List.mem_append_left _ z) z2⟩
/-- a body as its caller sees it -/
theorem body_ok {P : Program} {w : World} {mg : Str → Option Value} {base : Heap} {qual : Str} {st : Stmt} {f : Addr} {N : List Str} {kk : Nat} {cdv : Value} {A : Around} {outer : List Env} {s : Shared} {vs : List V} {Q : VK} {E : XK} {rs : List Rs}
    (hr : Room kk (A.deeper (envOfC qual (defScope st) s.heap.objs.size f cdv))) (hN : rs.length ≤ N.length) (s0 : SR K as H ms) (ra : RsA K as H H vs rs) (hl2 : ms'.length = ms.length)
    (hb : SSs ⟨N, defScope st, K, mg, P, w, base, kk, fun _ => true, ms.length, fun j => rs.any fun r => match r with | .mu i => i == j | _ => false⟩ (defBody st) (rs.map slOf ++ List.replicate (N.length - rs.length) .un) ms o) (hf : Fin ms' o r)
    (q : ∀ v H', Kp (fun b => ∃ j : Nat, as[j]? = some b ∧ Rs.mu j ∈ rs) H H' → SR K as H' ms' → RsOk K as H H' v r → Q v H') :
    ∃ t, PSs (cxOf CX0 P w K mg base N qual (defScope st) f cdv A outer s H E).nox (defBody st) t ∧ t { nx := fun _ H' => Q .non H', rt := Q } (start N vs) H := by
    have hl : vs.length = rs.length := ra.length
    refine ⟨_, pss_c (S := ⟨N, defScope st, K, mg, P, w, base, kk, fun _ => true, ms.length, fun j => rs.any fun r => match r with | .mu i => i == j | _ => false⟩) ⟨rfl, rfl, rfl, rfl, rfl, rfl, rfl, rfl, hr, fun _ _ => rfl, rfl⟩ _, ?_⟩
    have hal : as.length = ms'.length := by rw [hl2]; exact s0.2.1
    have tch : ∀ {as' : List Addr} {H' : Hp}, Gr ⟨N, defScope st, K, mg, P, w, base, kk, fun _ => true, ms.length, fun j => rs.any fun r => match r with | .mu i => i == j | _ => false⟩ as H as' H' → Kp (fun b => ∃ j : Nat, as[j]? = some b ∧ Rs.mu j ∈ rs) H H' := by
      intro as' H' g
      obtain ⟨l, _, _, k⟩ := g
      refine fun b o nb e => k b o (fun ⟨j, ej, tj⟩ => ?_) e
      have hj := (List.getElem?_eq_some_iff.mp ej).1
      rcases tj with tj | tj
      · have tj : ms.length ≤ j := tj
        rw [s0.2.1] at hj
        omega
      · obtain ⟨r0, hr0, hr1⟩ := List.any_eq_true.mp (show (rs.any fun r => match r with | .mu i => i == j | _ => false) = true from tj)
        refine nb ⟨j, ej, ?_⟩
        cases r0 with
        | mu i =>
          have : i = j := by simpa using hr1
          rw [← this]; exact hr0
        | dat d => cases hr1
        | new d => cases hr1
        | scr d => cases hr1
        | ty d => cases hr1
    refine hb as _ H _ s0 (env_start ra (by rw [hl]; exact hN)) ?_
    cases hf with
    | dat =>
      intro as' v H' g s1 q1
      obtain ⟨l, rfl, _, _⟩ := id g
      exact q v H' (tch g) (s1.close hal) (show R K as H' v _ from R.sub (fun q z => List.mem_append_left _ z) q1)
    | new =>
      intro as' v H' g s1 q1
      obtain ⟨l, rfl, _, _⟩ := id g
      obtain ⟨p, xs, rfl, hp0, np, hp, ra1⟩ := q1
      exact q _ H' (tch g) (s1.close hal) ⟨p, xs, rfl, hp0, fun z => np (List.mem_append_left _ z), hp, RA.sub (fun q z => by
        rcases List.mem_cons.mp z with z | z
        · rw [z]; exact List.mem_cons_self
        · exact List.mem_cons_of_mem _ (List.mem_append_left _ z)) ra1⟩
    | newd =>
      intro as' v H' g s1 q1
      obtain ⟨l, rfl, _, _⟩ := id g
      exact q v H' (tch g) (s1.close hal) (show R K as H' v _ from R.sub (fun q z => List.mem_append_left _ z) (q1.frz rfl))
    | mu hj hle =>
      intro as' v H' g s1 q1
      obtain ⟨l, rfl, hfr, _⟩ := id g
      obtain ⟨p, rfl, hp⟩ := q1
      obtain ⟨xs, z1, z2⟩ := s1.2.2 _ p _ hp hj
      have hpl : p ∈ l := by
        rw [List.getElem?_append_right (by omega)] at hp
        exact List.mem_of_getElem? hp
      refine q _ H' (tch g) (s1.close hal) ⟨p, xs, rfl, hfr p hpl, fun z => ?_, z1, RA.sub (fun q z => ?_) z2⟩
      · exact (List.nodup_append.mp s1.1).2.2 p z p hpl rfl
      · rcases List.mem_cons.mp z with z | z
        · rw [z]; exact List.mem_append_right _ hpl
        · exact List.mem_append_left _ z
    | none =>
      intro as' σ' H' g s1 en
      obtain ⟨l, rfl, _, _⟩ := id g
      exact q .non H' (tch g) (s1.close hal) (by unfold RsOk R; rfl)
/-- THE RULE for a def -/
theorem fnok_of {P : Program} {w : World} {mg : Str → Option Value} {base : Heap} {qual : Str} {st : Stmt} {f : Addr} {fd : FuncData} {N ps : List Str} {kk n : Nat} {F : Rel} (Fu : Fun K x qual st f fd) (Sc : FnScope N ps (defScope st)) (hn : ps.length = n) (hN : n ≤ N.length)
    (hlen : ∀ rs ms r ms', F rs ms r ms' → rs.length = n ∧ ms'.length = ms.length)
    (hbody : ∀ rs ms r ms', F rs ms r ms' → ∃ o, SSs ⟨N, defScope st, K, mg, P, w, base, kk, fun _ => true, ms.length, fun j => rs.any fun r => match r with | .mu i => i == j | _ => false⟩ (defBody st) (rs.map slOf ++ List.replicate (N.length - rs.length) .un) ms o ∧ Fin ms' o r) : FnOk P w K mg base CX0 (kk + 1) f fd ps (spR K F) := by
  refine Fu.ok Sc (fun vs H Q E h => ?_) (fun cdv A outer s H vs Q E hr h => ?_)
  · obtain ⟨as, ms, rs, r, ms', _, ra, hF, _⟩ := h
    rw [ra.length, (hlen rs ms r ms' hF).1, hn]
  · obtain ⟨as, ms, rs, r, ms', s0, ra, hF, q⟩ := h
    obtain ⟨o, hb, hf⟩ := hbody rs ms r ms' hF
    obtain ⟨hl1, hl2⟩ := hlen rs ms r ms' hF
    exact body_ok hr (by rw [hl1]; exact hN) s0 ra hl2 hb hf q
theorem kn_of {P : Program} {w : World} {mg : Str → Option Value} {base : Heap} {qual : Str} {st : Stmt} {f : Addr} {fd : FuncData} {N ps : List Str} {kk n : Nat} {F : Rel} (Fu : Fun K x qual st f fd) (Sc : FnScope N ps (defScope st)) (hb : Binds K fd ps []) (hm : mg x = some (.ref f)) (hn : ps.length = n) (hN : n ≤ N.length)
    (hlen : ∀ rs ms r ms', F rs ms r ms' → rs.length = n ∧ ms'.length = ms.length)
    (hbody : ∀ rs ms r ms', F rs ms r ms' → ∃ o, SSs ⟨N, defScope st, K, mg, P, w, base, kk, fun _ => true, ms.length, fun j => rs.any fun r => match r with | .mu i => i == j | _ => false⟩ (defBody st) (rs.map slOf ++ List.replicate (N.length - rs.length) .un) ms o ∧ Fin ms' o r) : Kn P w K mg base (kk + 1) x F :=
  ⟨f, ((fnok_of Fu Sc hn hN hlen hbody).raw hb .nil).imp fun vs H Q E h => by rw [List.append_nil]; exact h, hm, Fu.kp⟩
/-- a def with a star alone -/
theorem kn_star {P : Program} {w : World} {mg : Str → Option Value} {base : Heap} {qual pv : Str} {st : Stmt} {f : Addr} {fd : FuncData} {N : List Str} {kk : Nat} {F : Rel} (Fu : Fun K x qual st f fd) (Sc : FnScope N [pv] (defScope st)) (hm : mg x = some (.ref f)) (hN : 1 ≤ N.length)
    (hb : ∀ (kV doc pm : Value) (an : Option Addr) (cdv ct : Value) (us rest : List Value), us.length = ([] : List Str).length → bindArgs (PySem.W.fnOf x qual (defArgs st) (defBody st) (defScope st) .none kV doc pm an cdv ct) ⟨us ++ rest, []⟩ = (newTuple rest >>= fun t => pure (([] : List Str).zip us ++ [(pv, t)])))
    (hbody : ∀ rs ms r ms', F rs ms r ms' → ∃ ds, rs = ds.map Rs.dat ∧ ds.length ≤ sizeLine ∧ ms'.length = ms.length ∧ ∃ o, SSs ⟨N, defScope st, K, mg, P, w, base, kk, fun _ => true, ms.length, fun j => false⟩ (defBody st) (.dat (.tuple ds) :: List.replicate (N.length - 1) .un) ms o ∧ Fin ms' o r) : Kn P w K mg base (kk + 1) x F := by
  obtain ⟨oc, od, kV, doc, pm, an, cdv, ct, osl, rfl, lk, hcd⟩ := Fu.ex
  refine ⟨f, (StX.fn_star (ps := []) (k := kk) (sp := fun vs H Q E => ∃ (as : List Addr) (ms ms' : MS) (ds : List D) (r : Rs) (o : Out), SR K as H ms ∧ RsA K as H H vs [.dat (.tuple ds)] ∧ ms'.length = ms.length ∧ SSs ⟨N, defScope st, K, mg, P, w, base, kk, fun _ => true, ms.length, fun j => false⟩ (defBody st) (.dat (.tuple ds) :: List.replicate (N.length - 1) .un) ms o ∧ Fin ms' o r ∧
    ∀ v H', Kp (fun b => ∃ j : Nat, as[j]? = some b ∧ Rs.mu j ∈ [Rs.dat (.tuple ds)]) H H' → SR K as H' ms' → RsOk K as H H' v r → Q v H') lk hcd Sc StX.cxUp_none (hb kV doc pm an cdv ct) fun A outer s H vs Q E hr h => ?_).imp fun vs H Q E h => ?_, hm, Fu.kp⟩
  · obtain ⟨as, ms, ms', ds, r, o, s0, ra, hl, hs, hf, q⟩ := h
    obtain ⟨t, h1, h2⟩ := body_ok (rs := [.dat (.tuple ds)]) hr hN s0 ra hl hs hf q
    exact ⟨t, h1.nox, h2⟩
  · obtain ⟨as, ms, rs, r, ms', s0, ra, hF, q⟩ := h
    obtain ⟨ds, rfl, hz, hl, o, hs, hf⟩ := hbody rs ms r ms' hF
    have rd : ∀ {ds : List D} {vs : List V}, RsA K as H H vs (ds.map Rs.dat) → RA K as H vs ds := by
      intro ds
      induction ds with
      | nil => intro vs h; have h : vs = [] := h; subst h; exact RA.nil
      | cons d ds ih =>
        intro vs h
        obtain ⟨v, u, rfl, h1, h2⟩ := h
        exact RA.cons h1 (ih h2)
    have ra2 := rd ra
    refine ⟨[], vs, rfl, rfl, by rw [ra2.length]; exact hz, fun p hp => ⟨as, ms, ms', ds, r, o, s0.new hp, ⟨.ref p, [], rfl, ?_, rfl⟩, hl, hs, hf, fun v H' k1 s1 q1 => ?_⟩⟩
    · have h := RsOk.mkTup (H := H) s0 hp ra2
      exact h
    · refine q v H' (fun b o nb e => k1 b o (fun ⟨j, e1, e2⟩ => by simp at e2) ?_) s1 ?_
      · rw [upd_ne (ne_of_none e hp)]; exact e
      · cases r with
        | new ds =>
          obtain ⟨p2, xs, e, n1, q2⟩ := q1
          refine ⟨p2, xs, e, ?_, q2⟩
          by_cases z : p2 = p
          · rw [z]; exact hp
          · rw [upd_ne z] at n1; exact n1
        | dat d => exact q1
        | mu k => exact q1
        | scr ns => exact q1
        | ty T => exact q1
end
end Abs
namespace Abs
open PySem PySem.Spec PyProof.Rows L2
section
variable {S : Sx} {K : PySem.W.Frag} {as as1 as2 : List Addr} {H H1 H2 H' : Hp} {ms ms1 ms2 ms3 ms' : MS} {ρ ρ1 ρ2 ρ' : Env'} {σ : L2.St} {e a b c tg iter : Expr} {es : List Expr} {r r' r1 r2 r3 : Rs} {rs : List Rs} {o : Out} {st : Stmt} {rest bd sts : List Stmt} {pos p : Pos} {t : Bool} {i j l : Nat} {x y z : Str} {En : Ends} {d d1 d2 d3 : D} {ds ds1 ds2 : List D}

/-! ### less is known -/
inductive LeS (n : Nat) : Sl → Sl → Prop
  | un {s : Sl} : LeS n s .un
  | dat {d : D} : LeS n (.dat d) (.dat d)
  | mu {k : Nat} (h : k < n) : LeS n (.mu k) (.mu k)
  | scr {ns : List Int} : LeS n (.scr ns) (.scr ns)
inductive LeE (n : Nat) : Env' → Env' → Prop
  | nil : LeE n [] []
  | cons {s s' : Sl} {ρ ρ' : Env'} (h : LeS n s s') (t : LeE n ρ ρ') : LeE n (s :: ρ) (s' :: ρ')
theorem LeE.get {n : Nat} : ∀ {ρ ρ' : Env'} {i : Nat} {s : Sl}, LeE n ρ ρ' → ρ'[i]? = some s → ∃ s0, ρ[i]? = some s0 ∧ LeS n s0 s
  | _, _, _, _, .nil, e => by simp at e
  | _, _, 0, _, .cons h t, e => by
    cases (Option.some.inj e : _ = _)
    exact ⟨_, rfl, h⟩
  | _, _, i + 1, s, .cons h t, e => by
    obtain ⟨s0, e0, q⟩ := LeE.get (i := i) t (by simpa using e)
    exact ⟨s0, by simpa using e0, q⟩
theorem LeE.length {n : Nat} : ∀ {ρ ρ' : Env'}, LeE n ρ ρ' → ρ.length = ρ'.length
  | _, _, .nil => rfl
  | _, _, .cons _ t => by rw [List.length_cons, List.length_cons, LeE.length t]
theorem LeS.refl {n : Nat} : ∀ {s : Sl}, (∀ k, s = .mu k → k < n) → LeS n s s
  | .un, _ => .un
  | .dat _, _ => .dat
  | .mu k, h => .mu (h k rfl)
  | .scr _, _ => .scr
theorem EnvOk.le {n : Nat} {bs : List Addr} (h : EnvOk K (as ++ bs) H σ ρ) (hn : as.length = n) (q : LeE n ρ ρ') : EnvOk K as H σ ρ' := by
  refine ⟨h.1.trans q.length, fun i s o e1 e2 => ?_⟩
  obtain ⟨s0, e0, hs⟩ := q.get e1
  have w := h.2 i s0 o e0 e2
  cases hs with
  | un => trivial
  | dat =>
    obtain ⟨v, e, w⟩ := w
    exact ⟨v, e, R.sub (fun q z => List.mem_append_left _ z) w⟩
  | mu hk =>
    obtain ⟨a, e, w⟩ := w
    refine ⟨a, e, ?_⟩
    rw [List.getElem?_append_left (by omega)] at w
    exact w
  | scr =>
    obtain ⟨a, e, w⟩ := w
    exact ⟨a, e, w.chg .refl fun q z => .inl (List.mem_append_left _ z)⟩
theorem ss_weak {ex : MS} (h : SSs S sts ρ ms (.nx ρ1 (ms1 ++ ex))) (hl : ms1.length = ms.length) (q : LeE ms1.length ρ1 ρ2) : SSs S sts ρ ms (.nx ρ2 ms1) := fun as σ H En s en k =>
  h as σ H En s en fun as' σ' H' g s' en' => by
    obtain ⟨l, rfl, n, kp⟩ := g
    have hal : as.length = ms1.length := by rw [hl]; exact s.2.1
    exact k as σ' H' (.of kp) (s'.close hal) (en'.le hal q)
theorem ss_weak_ct {ex : MS} (h : SSs S sts ρ ms (.ct ρ1 (ms1 ++ ex))) (hl : ms1.length = ms.length) (q : LeE ms1.length ρ1 ρ2) : SSs S sts ρ ms (.ct ρ2 ms1) := fun as σ H En s en k =>
  h as σ H En s en fun as' σ' H' g s' en' => by
    obtain ⟨l, rfl, n, kp⟩ := g
    have hal : as.length = ms1.length := by rw [hl]; exact s.2.1
    exact k as σ' H' (.of kp) (s'.close hal) (en'.le hal q)
theorem ss_weak_bk {ex : MS} (h : SSs S sts ρ ms (.bk ρ1 (ms1 ++ ex))) (hl : ms1.length = ms.length) (q : LeE ms1.length ρ1 ρ2) : SSs S sts ρ ms (.bk ρ2 ms1) := fun as σ H En s en k =>
  h as σ H En s en fun as' σ' H' g s' en' => by
    obtain ⟨l, rfl, n, kp⟩ := g
    have hal : as.length = ms1.length := by rw [hl]; exact s.2.1
    exact k as σ' H' (.of kp) (s'.close hal) (en'.le hal q)
theorem ss_break : SS S (.Break pos) ρ ms (.bk ρ ms) := .of (fun _ _ => ps_break) fun as σ H En s en k => k as σ H .refl s en
theorem ss_continue : SS S (.Continue pos) ρ ms (.ct ρ ms) := .of (fun _ _ => ps_continue) fun as σ H En s en k => k as σ H .refl s en
theorem ss_pass : SS S (.Pass pos) ρ ms (.nx ρ ms) := .of (fun _ _ => ps_pass) fun as σ H En s en k => k as σ H .refl s en

/-! ### what is walked -/
structure WD (S : Sx) (as : List Addr) (H1 : Hp) (J : It) (ds : List D) (G : MS → Prop) : Prop where
  go : ∀ (i : Nat) (H : Hp) (ms : MS), i < ds.length → Kp (S.T as) H1 H → SR S.K as H ms → G ms → J.go i H
  stop : ∀ (H : Hp) (ms : MS), Kp (S.T as) H1 H → SR S.K as H ms → G ms → J.stop ds.length H
  yld : ∀ (i : Nat) (H : Hp) (ms : MS) (v : V) (H' : Hp), i < ds.length → Kp (S.T as) H1 H → SR S.K as H ms → G ms → J.yld i H v H' → Kp (fun _ => False) H H' ∧ SR S.K as H' ms ∧ ∃ d, ds[i]? = some d ∧ R S.K as H' v d
def cI (S : Sx) (tg iter : Expr) : TI := fun σ H Rr => ∃ w : TI, (∀ X, InS S X → PI X tg iter w) ∧ w σ H Rr
theorem pi_c {X : Cx} (h : InS S X) (tg iter : Expr) : PI X tg iter (cI S tg iter) := ⟨fun pins s σ H Rr I ⟨te, p, q⟩ => (p X h).run pins s σ H Rr I q⟩
def IT (S : Sx) (tg iter : Expr) (ρ : Env') (ms : MS) (ds : List D) (ms1 : MS) (G : MS → Prop) : Prop := ∀ (as : List Addr) (σ : L2.St) (H : Hp) (Rr : It → Hp → Prop), SR S.K as H ms → EnvOk S.K as H σ ρ →
  (∀ J H1, Kp (S.T as) H H1 → SR S.K as H1 ms1 → (∀ (l : List Addr) (H1' : Hp), (∀ q ∈ l, H1 q = none) → Kq as H1 H1' → WD S (as ++ l) H1' J ds G) → Rr J H1) → cI S tg iter σ H Rr
theorem RsOk.ext {H0 : Hp} {v : V} {l : List Addr} (k : Kq as H H') (hl : ∀ q ∈ l, H q = none) (h : RsOk K as H0 H v r) : RsOk K (as ++ l) H0 H' v r := by
  have sb : ∀ q ∈ as ++ l, q ∈ as ∨ H q = none := fun q z => (List.mem_append.mp z).imp id (hl q)
  cases r with
  | dat d => exact R.chg k sb _ _ h
  | mu k' =>
    obtain ⟨a, e, q⟩ := h
    exact ⟨a, e, by rw [List.getElem?_append_left (List.getElem?_eq_some_iff.mp q).1]; exact q⟩
  | new ds =>
    obtain ⟨p, xs, e, n, np, hp, q⟩ := h
    refine ⟨p, xs, e, n, fun z => ?_, k p _ np hp, RA.chg (as := p :: as) (k.sub fun a z => List.mem_cons_of_mem _ z) (fun q z => ?_) _ _ q⟩
    · rcases List.mem_append.mp z with z | z
      · exact np z
      · rw [hl p z] at hp; cases hp
    · rcases List.mem_cons.mp z with z | z
      · exact .inl (by rw [z]; exact List.mem_cons_self)
      · exact (sb q z).imp (fun w => List.mem_cons_of_mem _ w) id
  | scr ns => obtain ⟨a, e, q⟩ := h; exact ⟨a, e, q.chg k sb⟩
  | ty T => exact h
theorem it_list (hp : ∀ X : Cx, ∀ t : TE, PE X e t → PI X tg e (iList X.K t)) (he : EE S e ρ ms r ms1) (hl : lres ms1 r = some ds) : IT S tg e ρ ms ds ms1 (fun m => lres m r = some ds) := fun as σ H Rr s en k =>
  ⟨iList S.K (cE S e), fun X hX => by have h := hp X _ (pe_c hX e); rw [hX.k] at h; exact h, he as σ H _ s en fun v H1 k1 s1 q1 => by
    obtain ⟨a, xs, rfl, hq, ra⟩ := q1.lst s1 hl
    refine ⟨a, rfl, ⟨xs, hq⟩, k _ H1 k1 s1 fun l H1' hl' kq => ?_⟩
    have at_ : ∀ (H2 : Hp) (m : MS), Kp (S.T (as ++ l)) H1' H2 → SR S.K (as ++ l) H2 m → lres m r = some ds → ∃ xs, SqL S.K H2 a xs ∧ RA S.K (as ++ l) H2 xs ds := fun H2 m k2 s2 g2 => by
      obtain ⟨a', ys, e, h1, h2⟩ := ((q1.ext kq hl').kp k2).lst s2 g2
      cases e
      exact ⟨ys, h1, h2⟩
    refine ⟨fun i H2 m hi k2 s2 g2 => ?_, fun H2 m k2 s2 g2 => ?_, fun i H2 m v H3 hi k2 s2 g2 hy => ?_⟩
    · obtain ⟨ys, h1, h2⟩ := at_ H2 m k2 s2 g2
      obtain ⟨v, e1, _⟩ := h2.get (List.getElem?_eq_getElem hi)
      exact ⟨ys, v, h1, e1⟩
    · obtain ⟨ys, h1, h2⟩ := at_ H2 m k2 s2 g2
      exact ⟨ys, h1, by rw [h2.length]; exact Nat.le_refl _⟩
    · obtain ⟨ys, h1, h2⟩ := at_ H2 m k2 s2 g2
      obtain ⟨rfl, hy⟩ := hy
      obtain ⟨d, e1, e2⟩ := h2.get' (hy ys h1)
      exact ⟨.refl, s2, d, e1, e2⟩⟩
theorem it_tup (hp : ∀ X : Cx, ∀ t : TE, PE X e t → PI X tg e (iTup X.K t)) (he : EE S e ρ ms (.dat (.tuple ds)) ms1) : IT S tg e ρ ms ds ms1 (fun _ => True) := fun as σ H Rr s en k =>
  ⟨iTup S.K (cE S e), fun X hX => by have h := hp X _ (pe_c hX e); rw [hX.k] at h; exact h, he as σ H _ s en fun v H1 k1 s1 q1 => by
    obtain ⟨a, xs, rfl, hq, ra⟩ := q1.tup
    refine ⟨a, rfl, ⟨xs, hq⟩, k _ H1 k1 s1 fun l H1' hl' kq => ?_⟩
    have at_ : ∀ (H2 : Hp), Kp (S.T (as ++ l)) H1' H2 → ∃ xs, SqT S.K H2 a xs ∧ RA S.K (as ++ l) H2 xs ds := fun H2 k2 => by
      obtain ⟨a', ys, e, h1, h2⟩ := ((q1.ext kq hl').kp k2).tup
      cases e
      exact ⟨ys, h1, h2⟩
    refine ⟨fun i H2 m hi k2 s2 g2 => ?_, fun H2 m k2 s2 g2 => ?_, fun i H2 m v H3 hi k2 s2 g2 hy => ?_⟩
    · obtain ⟨ys, h1, h2⟩ := at_ H2 k2
      obtain ⟨v, e1, _⟩ := h2.get (List.getElem?_eq_getElem hi)
      exact ⟨ys, v, h1, e1⟩
    · obtain ⟨ys, h1, h2⟩ := at_ H2 k2
      exact ⟨ys, h1, by rw [h2.length]; exact Nat.le_refl _⟩
    · obtain ⟨ys, h1, h2⟩ := at_ H2 k2
      obtain ⟨rfl, hy⟩ := hy
      obtain ⟨d, e1, e2⟩ := h2.get' (hy ys h1)
      exact ⟨.refl, s2, d, e1, e2⟩⟩
def rngD (lo : Int) (n : Nat) : List D := (List.range n).map fun i => .int (lo + (i : Nat))
theorem WD.rng {lo : Int} {n : Nat} : WD S as H1 (Itr lo n) (rngD lo n) (fun _ => True) := ⟨fun i H m hi _ _ _ => by
    show i < n
    unfold rngD at hi; simpa using hi, fun H m _ _ _ => by
    show n ≤ (rngD lo n).length
    unfold rngD; simp, fun i H m v H' hi _ s _ hy => by
    obtain ⟨rfl, rfl⟩ := hy
    have hi : i < n := by unfold rngD at hi; simpa using hi
    refine ⟨.refl, s, .int (lo + (i : Nat)), ?_, by unfold R; rfl⟩
    unfold rngD
    rw [List.getElem?_map, List.getElem?_range hi]; rfl⟩
theorem it_rng1 {n : Int} (hm : S.mg "range" = none) (hg : S.sc.names.lookup (Str.ofString "range") = some .globalImplicit) (hs : ∀ X : Cx, ∀ t : TA, PA X [a] t → Gl X "range" → X.mg "range" = none → PI X tg (.Call (.Name "range" p) [a] [] pos) (iRng1 t))
    (ha : EA S [a] ρ ms [.dat (.int n)] ms1) (hn : -(2 ^ 62) ≤ n ∧ n < 2 ^ 62) : IT S tg (.Call (.Name "range" p) [a] [] pos) ρ ms (rngD 0 n.toNat) ms1 (fun _ => True) := fun as σ H Rr s en k =>
  ⟨iRng1 (cA S [a]), fun X hX => hs X _ (pa_c hX [a]) (hX.gl hg) (by rw [hX.mg]; exact hm), ha as σ H _ s en fun vs H1 k1 s1 q1 => by
    obtain ⟨v, rfl, q2⟩ := rs1 q1
    exact ⟨n, by rw [q2.int], hn.1, hn.2, k _ H1 k1 s1 fun _ _ _ _ => .rng⟩⟩
theorem it_rng2 {m n : Int} (hm : S.mg "range" = none) (hg : S.sc.names.lookup (Str.ofString "range") = some .globalImplicit) (hs : ∀ X : Cx, ∀ t : TA, PA X [a, b] t → Gl X "range" → X.mg "range" = none → PI X tg (.Call (.Name "range" p) [a, b] [] pos) (iRng2 t))
    (ha : EA S [a, b] ρ ms [.dat (.int m), .dat (.int n)] ms1) (hn : -(2 ^ 62) ≤ m ∧ m < 2 ^ 62 ∧ -(2 ^ 62) ≤ n ∧ n < 2 ^ 62) : IT S tg (.Call (.Name "range" p) [a, b] [] pos) ρ ms (rngD m (n - m).toNat) ms1 (fun _ => True) := fun as σ H Rr s en k =>
  ⟨iRng2 (cA S [a, b]), fun X hX => hs X _ (pa_c hX _) (hX.gl hg) (by rw [hX.mg]; exact hm), ha as σ H _ s en fun vs H1 k1 s1 q1 => by
    obtain ⟨v, u, rfl, q2, q3⟩ := rs2 q1
    exact ⟨m, n, by rw [q2.int, q3.int], hn, k _ H1 k1 s1 fun _ _ _ _ => .rng⟩⟩

/-! ### for, while -/
inductive Lo (τ β : Type) where
  | go (s : τ) | brk (s : τ) | ret (b : β)
def forL {α τ β : Type} (body : α → τ → Option (Lo τ β)) : List α → τ → Option (Lo τ β)
  | [], s => some (.brk s)
  | x :: xs, s => (body x s).bind fun o => match o with
    | .go s' => forL body xs s'
    | o => some o
def whileL {τ β : Type} (c : τ → Option Bool) (body : τ → Option (Lo τ β)) : Nat → τ → Option (Lo τ β)
  | 0, _ => none
  | n + 1, s => (c s).bind fun t => if t = true then (body s).bind fun o => match o with
    | .go s' => whileL c body n s'
    | o => some o else some (.brk s)
/-- what a turn leads to -/
def LoOut {τ β : Type} (S : Sx) (bd : List Stmt) (ρ : Env') (ms : MS) (env : τ → Env') (mst : τ → MS) (rr : β → Rs) (mr : β → MS) : Lo τ β → Prop
  | .go s => SSs S bd ρ ms (.nx (env s) (mst s)) ∨ SSs S bd ρ ms (.ct (env s) (mst s))
  | .brk s => SSs S bd ρ ms (.bk (env s) (mst s))
  | .ret b => SSs S bd ρ ms (.rt (rr b) (mr b))
def loEnd {τ β : Type} (env : τ → Env') (mst : τ → MS) (rr : β → Rs) (mr : β → MS) : Lo τ β → Out
  | .go s => .nx (env s) (mst s)
  | .brk s => .nx (env s) (mst s)
  | .ret b => .rt (rr b) (mr b)
theorem Gr.same (g : Gr S as H as1 H1) (hl : as1.length = as.length) : as1 = as := by
  obtain ⟨l, rfl, _, _⟩ := g
  rw [List.length_append] at hl
  have : l = [] := List.length_eq_zero_iff.mp (by omega)
  rw [this, List.append_nil]
theorem ss_for {α τ β : Type} (hfs : ∀ env x, foldedSetIterable iter env x = pure x) (hp : ∀ X : Cx, X.xe = (fun _ _ => False) → PassesOwn (model X.prog X.w) X.A X.env X.xe) (emb : α → D) (xs : List α) (body : α → τ → Option (Lo τ β)) (env : τ → Env') (mst : τ → MS) (rr : β → Rs) (mr : β → MS) (n : Nat) {G : MS → Prop} {s0 : τ} {oo : Lo τ β}
    (hi : IT S tg iter ρ ms (xs.map emb) (mst s0) G) (hG : ∀ s, G (mst s)) (hn : ∀ s, (mst s).length = n) (h0 : LeE n ρ (env s0))
    (hb : ∀ x ∈ xs, ∀ s o, body x s = some o → ∃ ρx sl, EG S tg (emb x) (env s) ρx sl ∧ LoOut S bd ρx (mst s) env mst rr mr o)
    (hf : forL body xs s0 = some oo) : SS S (.For tg iter bd [] pos) ρ ms (loEnd env mst rr mr oo) :=
  .of (ts := tFor (cI S tg iter) (cG S tg) (cSs S bd)) (fun X hX => ps_for (hp X hX.xe) hX.calm (pi_c hX _ _) (pg_c hX _) (pss_c hX _) (hfs _)) fun as σ H En s en k => hi as σ H _ s en fun J H1 k1 s1 w0 => by
    have w := w0 [] H1 (fun _ z => by simp at z) .refl
    rw [List.append_nil] at w
    have hal : as.length = n := by rw [s1.2.1]; exact hn s0
    refine ⟨fun i m σ' H' => m = xs.length - i ∧ i ≤ xs.length ∧ ∃ s, forL body (xs.drop i) s = some oo ∧ Kp (S.T as) H1 H' ∧ SR S.K as H' (mst s) ∧ EnvOk S.K as H' σ' (env s),
      ⟨xs.length, by simp, Nat.zero_le _, s0, by simpa using hf, .refl, s1, EnvOk.le (bs := []) (by rw [List.append_nil]; exact en.kp k1) hal h0⟩, ?_⟩
    rintro i m σ' H' ⟨rfl, hi', s', hf', k2, s2, en2⟩
    by_cases hlt : i < xs.length
    · refine .inr ⟨w.go i H' _ (by simpa using hlt) k2 s2 (hG _), ?_⟩
      have hd : xs.drop i = xs[i] :: xs.drop (i + 1) := List.drop_eq_getElem_cons hlt
      rw [hd] at hf'
      unfold forL at hf'
      cases hbo : body xs[i] s' with
      | none => rw [hbo] at hf'; cases hf'
      | some o =>
        rw [hbo] at hf'
        obtain ⟨ρx, sl, eg, lo⟩ := hb xs[i] (List.getElem_mem hlt) s' o hbo
        refine ⟨fun σ3 H3 => ∃ s, forL body (xs.drop (i + 1)) s = some oo ∧ Kp (S.T as) H1 H3 ∧ SR S.K as H3 (mst s) ∧ EnvOk S.K as H3 σ3 (env s), fun σ3 H3 h3 => ⟨xs.length - (i + 1), by omega, rfl, hlt, h3⟩, fun v H2 hy => ?_⟩
        obtain ⟨k3, s3, d, hd1, hd2⟩ := w.yld i H' _ v H2 (by simpa using hlt) k2 s2 (hG _) hy
        have hde : d = emb xs[i] := by
          rw [List.getElem?_map, List.getElem?_eq_getElem hlt] at hd1
          exact (Option.some.inj hd1).symm
        rw [hde] at hd2
        refine eg as σ' H2 v _ (en2.kp (k3.f (T := S.T as))) hd2 fun σ4 en4 _ => ?_
        have kk : Kp (S.T as) H1 H2 := k2.trans k3.f
        cases o with
        | go s4 =>
          have hf' : forL body (xs.drop (i + 1)) s4 = some oo := hf'
          rcases lo with lo | lo
          · refine lo as σ4 H2 _ s3 en4 fun as' σ5 H5 g5 s5 en5 => ?_
            have e := g5.same (by rw [s5.2.1, hn, hal])
            subst e
            obtain ⟨_, _, _, kq⟩ := g5
            exact ⟨s4, hf', kk.trans kq, s5, en5⟩
          · refine lo as σ4 H2 _ s3 en4 fun as' σ5 H5 g5 s5 en5 => ?_
            have e := g5.same (by rw [s5.2.1, hn, hal])
            subst e
            obtain ⟨_, _, _, kq⟩ := g5
            exact ⟨s4, hf', kk.trans kq, s5, en5⟩
        | brk s4 =>
          cases (Option.some.inj hf' : _ = oo)
          refine lo as σ4 H2 _ s3 en4 fun as' σ5 H5 g5 s5 en5 => ?_
          exact k as' σ5 H5 (Gr.trans s s3 (.of (k1.trans kk)) g5) s5 en5
        | ret b =>
          cases (Option.some.inj hf' : _ = oo)
          refine lo as σ4 H2 _ s3 en4 fun as' v5 H5 g5 s5 q5 => ?_
          exact k as' v5 H5 (Gr.trans s s3 (.of (k1.trans kk)) g5) s5 (q5.gback s s3 (.of (k1.trans kk)))
    · have e : i = xs.length := by omega
      subst e
      rw [List.drop_length] at hf'
      unfold forL at hf'
      cases (Option.some.inj hf' : _ = oo)
      refine .inl ⟨by have := w.stop H' _ k2 s2 (hG _); rw [List.length_map] at this; exact this, ?_⟩
      exact k as σ' H' (.of (k1.trans k2)) s2 en2
theorem ss_while {τ β : Type} (hp : ∀ X : Cx, X.xe = (fun _ _ => False) → PassesOwn (model X.prog X.w) X.A X.env X.xe) (cm : τ → Option Bool) (body : τ → Option (Lo τ β)) (env : τ → Env') (mst : τ → MS) (rr : β → Rs) (mr : β → MS) (n : Nat) {s0 : τ} {oo : Lo τ β} (N : Nat)
    (hms : ms = mst s0) (hn : ∀ s, (mst s).length = n) (h0 : LeE n ρ (env s0)) (hc : ∀ s t, cm s = some t → ET S c (env s) (mst s) t (mst s))
    (hb : ∀ s o, cm s = some true → body s = some o → LoOut S bd (env s) (mst s) env mst rr mr o)
    (hf : whileL cm body N s0 = some oo) : SS S (.While c bd [] pos) ρ ms (loEnd env mst rr mr oo) :=
  .of (ts := tWhile (cT S c) (cSs S bd)) (fun X hX => ps_while (hp X hX.xe) (pt_c hX _) (pss_c hX _)) fun as σ H En s en k => by
    subst hms
    have hal : as.length = n := by rw [s.2.1]; exact hn s0
    refine ⟨fun m σ' H' => ∃ s, whileL cm body m s = some oo ∧ Kp (S.T as) H H' ∧ SR S.K as H' (mst s) ∧ EnvOk S.K as H' σ' (env s), ⟨N, s0, hf, .refl, s, EnvOk.le (bs := []) (by rw [List.append_nil]; exact en) hal h0⟩, ?_⟩
    rintro m σ' H' ⟨s', hf', k2, s2, en2⟩
    cases m with
    | zero => cases hf'
    | succ m =>
      unfold whileL at hf'
      cases hcs : cm s' with
      | none => rw [hcs] at hf'; cases hf'
      | some t =>
        rw [hcs] at hf'
        refine hc s' t hcs as σ' H' _ s2 en2 fun H3 k3 s3 => ?_
        have kk : Kp (S.T as) H H3 := k2.trans k3
        cases t with
        | false =>
          cases (Option.some.inj hf' : _ = oo)
          exact iteF (k as σ' H3 (.of kk) s3 (en2.kp k3))
        | true =>
          refine iteT ?_
          have hf' : ((body s').bind fun o => match o with
            | .go s' => whileL cm body m s'
            | o => some o) = some oo := hf'
          cases hbo : body s' with
          | none => rw [hbo] at hf'; cases hf'
          | some o =>
            rw [hbo] at hf'
            have lo := hb s' o hcs hbo
            refine ⟨fun σ3 H3 => ∃ s, whileL cm body m s = some oo ∧ Kp (S.T as) H H3 ∧ SR S.K as H3 (mst s) ∧ EnvOk S.K as H3 σ3 (env s), fun σ3 H3 h3 => ⟨m, Nat.lt_succ_self _, h3⟩, ?_⟩
            cases o with
            | go s4 =>
              have hf' : whileL cm body m s4 = some oo := hf'
              rcases lo with lo | lo
              · refine lo as σ' H3 _ s3 (en2.kp k3) fun as' σ5 H5 g5 s5 en5 => ?_
                have e := g5.same (by rw [s5.2.1, hn, hal])
                subst e
                obtain ⟨_, _, _, kq⟩ := g5
                exact ⟨s4, hf', kk.trans kq, s5, en5⟩
              · refine lo as σ' H3 _ s3 (en2.kp k3) fun as' σ5 H5 g5 s5 en5 => ?_
                have e := g5.same (by rw [s5.2.1, hn, hal])
                subst e
                obtain ⟨_, _, _, kq⟩ := g5
                exact ⟨s4, hf', kk.trans kq, s5, en5⟩
            | brk s4 =>
              cases (Option.some.inj hf' : _ = oo)
              refine lo as σ' H3 _ s3 (en2.kp k3) fun as' σ5 H5 g5 s5 en5 => ?_
              exact k as' σ5 H5 (Gr.trans s s3 (.of kk) g5) s5 en5
            | ret b =>
              cases (Option.some.inj hf' : _ = oo)
              refine lo as σ' H3 _ s3 (en2.kp k3) fun as' v5 H5 g5 s5 q5 => ?_
              exact k as' v5 H5 (Gr.trans s s3 (.of kk) g5) s5 (q5.gback s s3 (.of kk))
end
end Abs
namespace Abs
open PySem PySem.Spec PyProof.Rows L2
section
variable {S : Sx} {K : PySem.W.Frag} {as as1 as2 : List Addr} {H H1 H2 H' : Hp} {ms ms1 ms2 ms3 ms' : MS} {ρ ρ1 ρ2 ρ' : Env'} {σ : L2.St} {e a b c tg iter elt : Expr} {es ifs : List Expr} {r r' r1 r2 r3 : Rs} {rs : List Rs} {o : Out} {st : Stmt} {rest bd sts : List Stmt} {pos p : Pos} {t : Bool} {i j l : Nat} {x y z : Str} {En : Ends} {d d1 d2 d3 : D} {ds ds1 ds2 : List D}

/-! ### list comprehensions -/
def Sx.blk (S : Sx) (scope : Scope) : Sx := { S with sc := relS scope S.sc, cl := fun x => scope.names.lookup x == some .cell }
theorem InS.blk {X : Cx} (h : InS S X) (scope : Scope) (s : Shared) (H : Hp) (C : Addr) (cl : List (Str × Addr)) (fp : List Addr) : InS (S.blk scope) (X.blk s H scope (compEnvC scope cl C X.env) fp) :=
  ⟨h.n, by show relabel scope X.env = relS scope S.sc
           rw [← h.sc]; rfl, h.k, h.mg, h.p, h.w, h.base, h.calm, h.room, fun x hx => hx, rfl⟩
def cP (S : Sx) (ifs : List Expr) : TT := fun σ H Q => ∃ te : TT, (∀ X, InS S X → PTs X ifs te) ∧ te σ H Q
theorem pts_c {X : Cx} (h : InS S X) (ifs : List Expr) : PTs X ifs (cP S ifs) := ⟨fun pins s σ H Q I ⟨te, p, q⟩ => (p X h).run pins s σ H Q I q⟩
def EP' (S : Sx) (ifs : List Expr) (ρ : Env') (ms : MS) (b : Bool) (ms' : MS) : Prop := EVb S (cP S ifs) ρ ms b ms'
theorem ep_nil : EP' S [] ρ ms true ms := fun as σ H Q s en k => ⟨tYes, fun _ _ => pts_nil, k H .refl s⟩
theorem ep_one (h : ET S c ρ ms t ms') : EP' S [c] ρ ms t ms' := fun as σ H Q s en k => ⟨cT S c, fun X hX => pts_one (pt_c hX c), h as σ H Q s en k⟩
def wipeE (ρ : Env') : List Nat → Env'
  | [] => ρ
  | v :: vs => (wipeE ρ vs).set v .un
theorem EnvOk.setN (h : EnvOk K as H σ ρ) : EnvOk K as H (σ.set i none) (ρ.set i .un) := by
  refine ⟨by simp [h.1], fun j s o e1 e2 => ?_⟩
  by_cases hj : i = j
  · subst hj
    have hl : i < ρ.length := by
      have := (List.getElem?_eq_some_iff.mp e1).1
      simpa using this
    rw [List.getElem?_set_self hl] at e1
    cases e1; trivial
  · rw [List.getElem?_set_ne hj] at e1 e2
    exact h.2 j s o e1 e2
theorem EnvOk.wipe (h : EnvOk K as H σ ρ) : ∀ vs : List Nat, EnvOk K as H (wipe σ vs) (wipeE ρ vs)
  | [] => h
  | v :: vs => by unfold L2.wipe wipeE; exact (EnvOk.wipe h vs).setN
theorem wipe_get {vs : List Nat} : ∀ {i : Nat}, i ∉ vs → (wipe σ vs)[i]? = σ[i]? := by
  induction vs with
  | nil => intro i _; rfl
  | cons v vs ih =>
    intro i h
    unfold L2.wipe
    rw [List.getElem?_set_ne (fun z => h (by simp [z])), ih fun z => h (List.mem_cons_of_mem _ z)]
theorem wipe_get' {vs : List Nat} : ∀ {i : Nat}, i ∈ vs → i < σ.length → (wipe σ vs)[i]? = some none := by
  induction vs with
  | nil => intro i h; simp at h
  | cons v vs ih =>
    intro i h hl
    unfold L2.wipe
    by_cases hv : v = i
    · subst hv
      rw [List.getElem?_set_self (by rw [wipe_length]; exact hl)]
    · rw [List.getElem?_set_ne hv]
      exact ih ((List.mem_cons.mp h).resolve_left fun z => hv z.symm) hl
theorem But.wipe {σ' : L2.St} {sl vs : List Nat} (h : But sl (wipe σ vs) σ') (hs : ∀ i ∈ sl, i ∈ vs) : L2.wipe σ' vs = L2.wipe σ vs := by
  have hlen : σ'.length = σ.length := by rw [h.1, wipe_length]
  apply List.ext_getElem?
  intro i
  by_cases hi : i ∈ vs
  · by_cases hl : i < σ.length
    · rw [wipe_get' hi (by omega), wipe_get' hi hl]
    · rw [List.getElem?_eq_none (by rw [wipe_length]; omega), List.getElem?_eq_none (by rw [wipe_length]; omega)]
  · rw [wipe_get hi, h.2 i fun z => hi (hs i z)]
/-- the same, made in turns -/
def fmL {α τ β : Type} (m : α → τ → Option (Option β × τ)) : List α → τ → Option (List β × τ)
  | [], s => some ([], s)
  | x :: xs, s => (m x s).bind fun o => (fmL m xs o.2).map fun q => (match o.1 with | none => q.1 | some y => y :: q.1, q.2)
/-- one turn of a comprehension -/
def LcTurn {α τ β : Type} (S : Sx) (tg elt : Expr) (ifs : List Expr) (ρ : Env') (vs : List Nat) (emb : α → D) (emb' : β → D) (mst : τ → MS) (x : α) (s : τ) (o : Option β) (s' : τ) (ex : MS) : Prop :=
  ∃ (ρx : Env') (sl : List Nat), (∀ i ∈ sl, i ∈ vs) ∧ EG S tg (emb x) ρ ρx sl ∧ ∃ msb, EP' S ifs ρx (mst s ++ ex) o.isSome msb ∧
    match o with
    | none => msb = mst s' ++ ex
    | some y => ∃ r, EE S elt ρx msb r (mst s' ++ ex) ∧ frz r = some (emb' y)
theorem Gr.tsub {l : List Addr} (hf : ∀ q ∈ l, H1 q = none) (k : Kp ((S.T (as ++ l))) H1 H2) : Kp (S.T as) H1 H2 := fun b o nb e => k b o (fun z => by
  rcases Sx.T_app z with z | z
  · exact nb z
  · rw [hf b z] at e; cases e) e
theorem evt_lc {α τ β : Type} {scope : Scope} {vs : List Nat} (emb : α → D) (emb' : β → D) (xs : List α) (m : α → τ → Option (Option β × τ)) (mst : τ → MS) (n : Nat) {G : MS → Prop} {s0 s1 : τ} {ys : List β}
    (hi : IT S tg iter ρ ms (xs.map emb) (mst s0) G) (hG : ∀ s ex, G (mst s ++ ex)) (hn : ∀ s, (mst s).length = n)
    (hb : ∀ x ∈ xs, ∀ s o s' ex, m x s = some (o, s') → LcTurn (S.blk scope) tg elt ifs (wipeE ρ vs) vs emb emb' mst x s o s' ex)
    (hf : fmL m xs s0 = some (ys, s1)) (hz : xs.length ≤ sizeLine) (hn0 : S.n0 ≤ n) :
    EVt S (tLc (cI S tg iter) (cG (S.blk scope) tg) (cP (S.blk scope) ifs) (cE (S.blk scope) elt) vs) ρ ms (.new (ys.map emb')) (mst s1) := fun as σ H Q s en k => hi as σ H _ s en fun J H1 k1 s1' w0 Dl hD => by
  have hal : as.length = n := by rw [s1'.2.1]; exact hn s0
  have hDs : ∀ q ∈ [Dl], H1 q = none := fun q z => by rw [List.mem_singleton.mp z]; exact hD
  have w := w0 [Dl] (upd H1 Dl (.lst [])) hDs (.new hD)
  have hDas : Dl ∉ as := s1'.notin hD
  -- fmL with what is made so far
  have step : ∀ (xs : List α) (s : τ) (acc : List β) (x : α), ∀ q, fmL m (x :: xs) s = some q → ∃ o s', m x s = some (o, s') ∧ ∃ q', fmL m xs s' = some q' ∧ q = (match o with | none => q'.1 | some y => y :: q'.1, q'.2) := by
    intro xs s acc x q h
    unfold fmL at h
    cases hm : m x s with
    | none => rw [hm] at h; cases h
    | some o =>
      rw [hm] at h
      have h : ((fmL m xs o.2).map fun q => (match o.1 with | none => q.1 | some y => y :: q.1, q.2)) = some q := h
      cases hq : fmL m xs o.2 with
      | none => rw [hq] at h; cases h
      | some q' =>
        rw [hq] at h
        exact ⟨o.1, o.2, rfl, q', hq, (Option.some.inj h).symm⟩
  have hnd : (as ++ [Dl]).length = n + 1 := by simp [hal]
  refine ⟨fun i mm H' => mm = xs.length - i ∧ i ≤ xs.length ∧ ∃ (s : τ) (acc : List β) (q : List β × τ), acc.length ≤ i ∧ fmL m (xs.drop i) s = some q ∧ acc ++ q.1 = ys ∧ q.2 = s1 ∧ Kp (S.T (as ++ [Dl])) (upd H1 Dl (.lst [])) H' ∧ SR S.K (as ++ [Dl]) H' (mst s ++ [acc.map emb']) ∧ EnvOk S.K (as ++ [Dl]) H' (L2.wipe σ vs) (wipeE ρ vs),
    ⟨xs.length, by simp, Nat.zero_le _, s0, [], (ys, s1), Nat.le_refl _, by simpa using hf, by simp, rfl, .refl, ?_, ?_⟩, ?_⟩
  · exact SR.open (s1'.new hD) hDas upd_same RA.nil fun k' a' es e1 e2 => by
      obtain ⟨zs, z1, z2⟩ := s1'.2.2 k' a' es e1 e2
      exact ⟨zs, by rw [upd_ne (ne_of_none z1 hD)]; exact z1, RA.chg (.new hD) (fun q z => (List.mem_cons.mp z).elim (fun e => .inr (by rw [e]; exact hD)) .inl) _ _ z2⟩
  · exact EnvOk.wipe ((en.kp k1).gr (.new hD) ⟨[Dl], rfl, hDs⟩) vs
  · rintro i mm H' ⟨rfl, hi', s, acc, q, hacc, hf', hys, hq2, k2, s2, en2⟩
    have kH : Kp (S.T as) H1 H' := by
      refine Gr.tsub hDs (fun b o nb e => k2 b o nb ?_)
      rw [upd_ne (ne_of_none e hD)]; exact e
    by_cases hlt : i < xs.length
    · refine .inr ⟨w.go i H' _ (by simpa using hlt) k2 s2 (hG _ _), ?_⟩
      have hd : xs.drop i = xs[i] :: xs.drop (i + 1) := List.drop_eq_getElem_cons hlt
      rw [hd] at hf'
      obtain ⟨o, s', hm, q', hq', rfl⟩ := step _ _ acc _ _ hf'
      refine ⟨fun H3 => ∃ (s : τ) (acc : List β) (q : List β × τ), acc.length ≤ i + 1 ∧ fmL m (xs.drop (i + 1)) s = some q ∧ acc ++ q.1 = ys ∧ q.2 = s1 ∧ Kp (S.T (as ++ [Dl])) (upd H1 Dl (.lst [])) H3 ∧ SR S.K (as ++ [Dl]) H3 (mst s ++ [acc.map emb']) ∧ EnvOk S.K (as ++ [Dl]) H3 (L2.wipe σ vs) (wipeE ρ vs),
        fun H3 h3 => ⟨xs.length - (i + 1), by omega, rfl, hlt, h3⟩, fun v H2 hy => ?_⟩
      obtain ⟨k3, s3, d, hd1, hd2⟩ := w.yld i H' _ v H2 (by simpa using hlt) k2 s2 (hG _ _) hy
      have hde : d = emb xs[i] := by
        rw [List.getElem?_map, List.getElem?_eq_getElem hlt] at hd1
        exact (Option.some.inj hd1).symm
      rw [hde] at hd2
      obtain ⟨ρx, sl, hsl, eg, msb, ep, he⟩ := hb xs[i] (List.getElem_mem hlt) s o s' [acc.map emb'] hm
      have en3 : EnvOk S.K (as ++ [Dl]) H2 (L2.wipe σ vs) (wipeE ρ vs) := en2.kp (S := S) k3.f
      refine eg (as ++ [Dl]) (L2.wipe σ vs) H2 v _ en3 hd2 fun σ4 en4 hbut => ⟨hbut.wipe hsl, ?_⟩
      refine ep (as ++ [Dl]) σ4 H2 _ s3 en4 fun H5 k5 s5 => ?_
      have k5' : Kp (S.T (as ++ [Dl])) H2 H5 := k5
      have kk : Kp (S.T (as ++ [Dl])) (upd H1 Dl (.lst [])) H5 := (k2.trans k3.f).trans k5'
      cases o with
      | none =>
        have he : msb = mst s' ++ [acc.map emb'] := he
        refine iteF ⟨s', acc, q', by omega, hq', hys, hq2, kk, ?_, (en3.kp k5')⟩
        rw [← he]; exact s5
      | some y =>
        obtain ⟨r, he, hr⟩ := he
        refine iteT (he (as ++ [Dl]) σ4 H5 _ s5 (en4.kp (S := S) k5') fun v6 H6 k6 s6 q6 => ?_)
        have k6' : Kp (S.T (as ++ [Dl])) H5 H6 := k6
        have eD : (as ++ [Dl])[n]? = some Dl := by
          rw [List.getElem?_append_right (by omega), hal, Nat.sub_self]; rfl
        have eM : (mst s' ++ [acc.map emb'])[n]? = some (acc.map emb') := by
          rw [List.getElem?_append_right (by rw [hn]; exact Nat.le_refl _), hn, Nat.sub_self]; rfl
        obtain ⟨ws, z1, z2⟩ := s6.2.2 n Dl _ eD eM
        refine ⟨ws, z1, by rw [z2.length, List.length_map]; omega, s', acc ++ [y], q', by simp; omega, hq', by rw [← hys]; simp, hq2, (kk.trans k6').trans (.mut ⟨n, eD, ?_⟩), ?_, ((en3.kp k5').kp (S := S) k6').kp (S := S) (.mut ⟨n, eD, ?_⟩)⟩
        · exact .inl hn0
        · have h7 := s6.set eD (z2.app (RA.cons (q6.frz hr) RA.nil))
          have e8 : (mst s' ++ [acc.map emb']).set n (acc.map emb' ++ [emb' y]) = mst s' ++ [(acc ++ [y]).map emb'] := by
            rw [List.set_append_right _ _ (by rw [hn]; exact Nat.le_refl _), hn, Nat.sub_self]
            simp
          rw [e8] at h7
          exact h7
        · exact .inl hn0
    · have e : i = xs.length := by omega
      subst e
      rw [List.drop_length] at hf'
      unfold fmL at hf'
      cases (Option.some.inj hf' : _ = q)
      refine .inl ⟨by have := w.stop H' _ k2 s2 (hG _ _); rw [List.length_map] at this; exact this, ?_⟩
      have eD : (as ++ [Dl])[n]? = some Dl := by
        rw [List.getElem?_append_right (by omega), hal, Nat.sub_self]; rfl
      have eM : (mst s ++ [acc.map emb'])[n]? = some (acc.map emb') := by
        rw [List.getElem?_append_right (by rw [hn]; exact Nat.le_refl _), hn, Nat.sub_self]; rfl
      obtain ⟨ws, z1, z2⟩ := s2.2.2 n Dl _ eD eM
      have hsc : SR S.K as H' (mst s) := s2.close (by rw [hn]; exact hal)
      have hs1 : s = s1 := hq2
      have hya : acc = ys := by rw [← hys]; simp
      subst hs1 hya
      exact k _ H' (k1.trans kH) hsc ⟨Dl, ws, rfl, fresh_back' s1' k1 hD, hDas, z1, RA.sub (fun q z => by
        rcases List.mem_cons.mp z with z | z
        · rw [z]; simp
        · exact List.mem_append_left _ z) z2⟩
theorem ee_lc {α τ β : Type} {scope : Scope} (own : List (Str × Nat)) (emb : α → D) (emb' : β → D) (xs : List α) (m : α → τ → Option (Option β × τ)) (mst : τ → MS) (n : Nat) {G : MS → Prop} {s0 s1 : τ} {ys : List β}
    (hN : S.N.Nodup) (ok : BlkOk S.N S.sc scope own) (hfs : ∀ env x, foldedSetIterable iter env x = pure x) (hi : IT S tg iter ρ ms (xs.map emb) (mst s0) G) (hG : ∀ s ex, G (mst s ++ ex)) (hn : ∀ s, (mst s).length = n)
    (hb : ∀ x ∈ xs, ∀ s o s' ex, m x s = some (o, s') → LcTurn (S.blk scope) tg elt ifs (wipeE ρ (own.map (·.2))) (own.map (·.2)) emb emb' mst x s o s' ex)
    (hf : fmL m xs s0 = some (ys, s1)) (hz : xs.length ≤ sizeLine) (hn0 : S.n0 ≤ n) : EE S (.ListComp elt [⟨tg, iter, ifs, 0⟩] scope pos) ρ ms (.new (ys.map emb')) (mst s1) :=
  .of (fun X hX => pe_lc hX.calm (by rw [hX.n]; exact hN) (pi_c hX _ _) (by rw [hX.n, hX.sc]; exact ok) (fun s H C cl fp => pg_c (hX.blk scope s H C cl fp) _) (fun s H C cl fp => pts_c (hX.blk scope s H C cl fp) _) (fun s H C cl fp => pe_c (hX.blk scope s H C cl fp) _) (hfs _))
    (evt_lc emb emb' xs m mst n hi hG hn hb hf hz hn0)
/-- x = [..] on one line -/
theorem ss_setLc {α τ β : Type} {scope : Scope} {px epos : Pos} (i : Nat) (own : List (Str × Nat)) (emb : α → D) (emb' : β → D) (xs : List α) (m : α → τ → Option (Option β × τ)) (mst : τ → MS) (n : Nat) {G : MS → Prop} {s0 s1 : τ} {ys : List β}
    (hN : S.N.Nodup) (hx : S.N[i]? = some x) (hxl : S.sc.names.lookup x = some .local) (hsw : ∀ X, InS S X → swapsWith (.ListComp elt [⟨tg, iter, ifs, 0⟩] scope epos) (some (.Name x px)) pos.line X.env = pure true)
    (ok : BlkOk S.N S.sc scope own) (hfs : ∀ env x, foldedSetIterable iter env x = pure x) (hi : IT S tg iter ρ ms (xs.map emb) (mst s0) G) (hG : ∀ s ex, G (mst s ++ ex)) (hn : ∀ s, (mst s).length = n)
    (hb : ∀ x ∈ xs, ∀ s o s' ex, m x s = some (o, s') → LcTurn (S.blk scope) tg elt ifs (wipeE ρ (own.map (·.2))) (own.map (·.2)) emb emb' mst x s o s' ex)
    (hf : fmL m xs s0 = some (ys, s1)) (hz : xs.length ≤ sizeLine) (hn0 : S.n0 ≤ n) : SS S (.Assign [.Name x px] (.ListComp elt [⟨tg, iter, ifs, 0⟩] scope epos) pos) ρ ms (.nx (ρ.set i (.dat (.list (ys.map emb')))) (mst s1)) :=
  .of (fun X hX => ps_setLc hX.calm (by rw [hX.n]; exact hN) (by rw [hX.n]; exact hx) (by rw [hX.sc]; exact hxl) (hsw X hX) (pi_c hX _ _) (by rw [hX.n, hX.sc]; exact ok) (fun s H C cl fp => pg_c (hX.blk scope s H C cl fp) _) (fun s H C cl fp => pts_c (hX.blk scope s H C cl fp) _) (fun s H C cl fp => pe_c (hX.blk scope s H C cl fp) _) (hfs _))
    fun as σ H En s en k => evt_lc emb emb' xs m mst n hi hG hn hb hf hz hn0 as σ H _ s en fun v H1 k1 s1 q1 => k as _ H1 (.of k1) s1 ((en.kp k1).setD (q1.frz rfl))
end
end Abs
namespace Abs
open PySem PySem.Spec PyProof.Rows L2

/-! ### what the mirrors are made of -/
def mulO (i j : Int) : Option Int := if i.natAbs.log2 + j.natAbs.log2 < 1000000 then some (i * j) else none
def divO (i j : Int) : Option Int := if 0 < j ∧ j.natAbs.log2 < 9000 then some (i / j) else none
def modO (i j : Int) : Option Int := if 0 < j then some (i % j) else none
def ixO {α : Type} (xs : List α) (i : Int) : Option α := L2.atI xs i
def szO {α : Type} (xs : List α) : Option (List α) := if xs.length ≤ sizeLine then some xs else none
def catO {α : Type} (xs ys : List α) : Option (List α) := if xs.length + ys.length ≤ sizeLine then some (xs ++ ys) else none
def appO {α : Type} (xs : List α) (y : α) : Option (List α) := if xs.length < sizeLine then some (xs ++ [y]) else none
def cutL {α : Type} (xs : List α) (lo hi : Option Int) : List α := (xs.drop (HT.sIx xs.length 0 lo)).take (HT.sIx xs.length xs.length hi - HT.sIx xs.length 0 lo)
def shO (d : D) : Option D := if SeqAt.shaped d = true then some d else none
/-- deep == -/
def eqO (d e : D) : Option Bool := if SeqAt.shaped d = true ∧ SeqAt.shaped e = true then some (PyData.eqv d e) else none
def rgO (n : Int) : Option (List Int) := if -(2 ^ 62) ≤ n ∧ n < 2 ^ 62 then some ((List.range n.toNat).map fun i => (0 : Int) + (i : Nat)) else none
def rg2O (m n : Int) : Option (List Int) := if -(2 ^ 62) ≤ m ∧ m < 2 ^ 62 ∧ -(2 ^ 62) ≤ n ∧ n < 2 ^ 62 then some ((List.range (n - m).toNat).map fun i => m + (i : Nat)) else none
def maxL : List Int → Option Int
  | [] => none
  | a :: t => some (t.foldl max a)
def minL : List Int → Option Int
  | [] => none
  | a :: t => some (t.foldl min a)
/-- comprehensions -/
def mapO {α β : Type} (m : α → Option β) : List α → Option (List β)
  | [] => some []
  | x :: xs => (m x).bind fun y => (mapO m xs).map fun ys => y :: ys
def fmO {α β : Type} (m : α → Option (Option β)) : List α → Option (List β)
  | [] => some []
  | x :: xs => (m x).bind fun o => (fmO m xs).map fun ys => match o with | none => ys | some y => y :: ys
def mapS {α β τ : Type} (m : α → τ → Option (β × τ)) : List α → τ → Option (List β × τ)
  | [], s => some ([], s)
  | x :: xs, s => (m x s).bind fun o => (mapS m xs o.2).map fun q => (o.1 :: q.1, q.2)
/-- loops without a way out -/
def forS {α τ : Type} (body : α → τ → Option τ) : List α → τ → Option τ
  | [], s => some s
  | x :: xs, s => (body x s).bind fun s' => forS body xs s'
def whileS {τ : Type} (c : τ → Option Bool) (body : τ → Option τ) : Nat → τ → Option τ
  | 0, _ => none
  | n + 1, s => (c s).bind fun t => if t = true then (body s).bind fun s' => whileS c body n s' else some s
theorem bindS {α β : Type} {o : Option α} {f : α → Option β} {b : β} (h : o.bind f = some b) : ∃ a, o = some a ∧ f a = some b := by
  cases o with
  | none => cases h
  | some a => exact ⟨a, rfl, h⟩
theorem someS {α : Type} {a b : α} (h : some a = some b) : a = b := Option.some.inj h
theorem iteT' {α : Type} {t : Bool} {a b : Option α} {x : α} (e : t = true) (h : (if t = true then a else b) = some x) : a = some x := by rw [if_pos e] at h; exact h
theorem iteF' {α : Type} {t : Bool} {a b : Option α} {x : α} (e : t = false) (h : (if t = true then a else b) = some x) : b = some x := by
  rw [if_neg (by rw [e]; decide)] at h; exact h
theorem mulO_some {i j k : Int} (h : mulO i j = some k) : CMulW i j ∧ k = i * j := by
  unfold mulO at h
  split at h
  · rename_i c; exact ⟨c, (Option.some.inj h).symm⟩
  · cases h
theorem divO_some {i j k : Int} (h : divO i j = some k) : CDivW i j ∧ k = i / j := by
  unfold divO at h
  split at h
  · rename_i c; exact ⟨c, (Option.some.inj h).symm⟩
  · cases h
theorem modO_some {i j k : Int} (h : modO i j = some k) : 0 < j ∧ k = i % j := by
  unfold modO at h
  split at h
  · rename_i c; exact ⟨c, (Option.some.inj h).symm⟩
  · cases h
theorem szO_some {α : Type} {xs ys : List α} (h : szO xs = some ys) : xs.length ≤ sizeLine ∧ ys = xs := by
  unfold szO at h
  split at h
  · rename_i c; exact ⟨c, (Option.some.inj h).symm⟩
  · cases h
theorem catO_some {α : Type} {xs ys zs : List α} (h : catO xs ys = some zs) : xs.length + ys.length ≤ sizeLine ∧ zs = xs ++ ys := by
  unfold catO at h
  split at h
  · rename_i c; exact ⟨c, (Option.some.inj h).symm⟩
  · cases h
theorem appO_some {α : Type} {xs zs : List α} {y : α} (h : appO xs y = some zs) : xs.length < sizeLine ∧ zs = xs ++ [y] := by
  unfold appO at h
  split at h
  · rename_i c; exact ⟨c, (Option.some.inj h).symm⟩
  · cases h
theorem eqO_some {d e : D} {t : Bool} (h : eqO d e = some t) : SeqAt.shaped d = true ∧ SeqAt.shaped e = true ∧ t = PyData.eqv d e := by
  unfold eqO at h
  split at h
  · rename_i c; exact ⟨c.1, c.2, (Option.some.inj h).symm⟩
  · cases h
theorem rgO_some {n : Int} {xs : List Int} (h : rgO n = some xs) : (-(2 ^ 62) ≤ n ∧ n < 2 ^ 62) ∧ rngD 0 n.toNat = xs.map .int := by
  unfold rgO at h
  split at h
  · rename_i c
    cases h
    refine ⟨c, ?_⟩
    unfold rngD
    rw [List.map_map]; rfl
  · cases h
theorem rg2O_some {m n : Int} {xs : List Int} (h : rg2O m n = some xs) : (-(2 ^ 62) ≤ m ∧ m < 2 ^ 62 ∧ -(2 ^ 62) ≤ n ∧ n < 2 ^ 62) ∧ rngD m (n - m).toNat = xs.map .int := by
  unfold rg2O at h
  split at h
  · rename_i c
    cases h
    refine ⟨c, ?_⟩
    unfold rngD
    rw [List.map_map]; rfl
  · cases h
theorem foldl_max_ge : ∀ (l : List Int) (a : Int), a ≤ l.foldl max a ∧ (∀ y ∈ l, y ≤ l.foldl max a) ∧ (l.foldl max a = a ∨ l.foldl max a ∈ l)
  | [], a => ⟨Int.le_refl _, fun _ h => by simp at h, .inl rfl⟩
  | b :: l, a => by
    obtain ⟨h1, h2, h3⟩ := foldl_max_ge l (max a b)
    rw [List.foldl_cons]
    have h4 : a ≤ max a b := Int.le_max_left _ _
    have h5 : b ≤ max a b := Int.le_max_right _ _
    refine ⟨by omega, fun y hy => ?_, ?_⟩
    · rcases List.mem_cons.mp hy with z | z
      · rw [z]; omega
      · exact h2 y z
    · rcases h3 with z | z
      · rw [z]
        rcases Int.le_total a b with w | w
        · right; rw [Int.max_eq_right w]; exact List.mem_cons_self
        · left; exact Int.max_eq_left w
      · right; exact List.mem_cons_of_mem _ z
theorem foldl_min_le : ∀ (l : List Int) (a : Int), l.foldl min a ≤ a ∧ (∀ y ∈ l, l.foldl min a ≤ y) ∧ (l.foldl min a = a ∨ l.foldl min a ∈ l)
  | [], a => ⟨Int.le_refl _, fun _ h => by simp at h, .inl rfl⟩
  | b :: l, a => by
    obtain ⟨h1, h2, h3⟩ := foldl_min_le l (min a b)
    rw [List.foldl_cons]
    have h4 : min a b ≤ a := Int.min_le_left _ _
    have h5 : min a b ≤ b := Int.min_le_right _ _
    refine ⟨by omega, fun y hy => ?_, ?_⟩
    · rcases List.mem_cons.mp hy with z | z
      · rw [z]; omega
      · exact h2 y z
    · rcases h3 with z | z
      · rw [z]
        rcases Int.le_total a b with w | w
        · left; exact Int.min_eq_left w
        · right; rw [Int.min_eq_right w]; exact List.mem_cons_self
      · right; exact List.mem_cons_of_mem _ z
theorem maxL_some {l : List Int} {m : Int} (h : maxL l = some m) : m ∈ l ∧ ∀ y ∈ l, y ≤ m := by
  cases l with
  | nil => cases h
  | cons a t =>
    cases (Option.some.inj h : _ = m)
    obtain ⟨h1, h2, h3⟩ := foldl_max_ge t a
    refine ⟨?_, fun y hy => ?_⟩
    · rcases h3 with z | z
      · rw [z]; exact List.mem_cons_self
      · exact List.mem_cons_of_mem _ z
    · rcases List.mem_cons.mp hy with z | z
      · rw [z]; exact h1
      · exact h2 y z
theorem minL_some {l : List Int} {m : Int} (h : minL l = some m) : m ∈ l ∧ ∀ y ∈ l, m ≤ y := by
  cases l with
  | nil => cases h
  | cons a t =>
    cases (Option.some.inj h : _ = m)
    obtain ⟨h1, h2, h3⟩ := foldl_min_le t a
    refine ⟨?_, fun y hy => ?_⟩
    · rcases h3 with z | z
      · rw [z]; exact List.mem_cons_self
      · exact List.mem_cons_of_mem _ z
    · rcases List.mem_cons.mp hy with z | z
      · rw [z]; exact h1
      · exact h2 y z

section
variable {S : Sx} {K : PySem.W.Frag} {as as1 as2 : List Addr} {H H1 H2 H' : Hp} {ms ms1 ms2 ms3 ms' mc tl : MS} {ρ ρ1 ρ2 ρ' : Env'} {σ : L2.St} {e a b c tg iter elt : Expr} {es ifs : List Expr} {r r' r1 r2 r3 : Rs} {rs : List Rs} {o : Out} {st : Stmt} {rest bd sts p q : List Stmt} {pos px : Pos} {t u : Bool} {i j k : Int} {x y z : Str} {En : Ends} {d d1 d2 d3 : D} {ds ds1 ds2 : List D} {Φ : Out → Prop}

/-! ### operations with conditions -/
theorem ee_mulO (ha : EE S a ρ ms (.dat (.int i)) ms1) (hb : EE S b ρ ms1 (.dat (.int j)) ms2) (h : mulO i j = some k) : EE S (.BinOp a .Mult b pos) ρ ms (.dat (.int k)) ms2 := by
  obtain ⟨c, rfl⟩ := mulO_some h
  exact ee_mul ha hb c
theorem ee_divO (ha : EE S a ρ ms (.dat (.int i)) ms1) (hb : EE S b ρ ms1 (.dat (.int j)) ms2) (h : divO i j = some k) : EE S (.BinOp a .FloorDiv b pos) ρ ms (.dat (.int k)) ms2 := by
  obtain ⟨c, rfl⟩ := divO_some h
  exact ee_div ha hb c
theorem ee_modO (ha : EE S a ρ ms (.dat (.int i)) ms1) (hb : EE S b ρ ms1 (.dat (.int j)) ms2) (h : modO i j = some k) : EE S (.BinOp a .Mod b pos) ρ ms (.dat (.int k)) ms2 := by
  obtain ⟨c, rfl⟩ := modO_some h
  exact ee_mod ha hb c
theorem ee_powC (ha : EE S a ρ ms (.dat (.int i)) ms1) (hb : EE S b ρ ms1 (.dat (.int j)) ms2) (hc : CPow i j) (h : i ^ j.toNat = k) : EE S (.BinOp a .Pow b pos) ρ ms (.dat (.int k)) ms2 := by
  rw [← h]; exact ee_pow ha hb hc
theorem ee_mulC (ha : EE S a ρ ms (.dat (.int i)) ms1) (hb : EE S b ρ ms1 (.dat (.int j)) ms2) (hc : CMulW i j) (h : i * j = k) : EE S (.BinOp a .Mult b pos) ρ ms (.dat (.int k)) ms2 := by
  rw [← h]; exact ee_mul ha hb hc
theorem ee_eqO (hm : behindInMarks .Eq b = false) (ha : EE S a ρ ms r1 ms1) (hb : EE S b ρ ms1 r2 ms2) (h1 : res ms2 r1 = some d) (h2 : res ms2 r2 = some d1) (h : eqO d d1 = some t) : EE S (.Compare a [.Eq] [b] pos) ρ ms (.dat (.bool t)) ms2 := by
  obtain ⟨c1, c2, rfl⟩ := eqO_some h
  exact ee_eqD hm ha hb h1 h2 c1 c2
theorem et_eqO (hm : behindInMarks .Eq b = false) (ha : EE S a ρ ms r1 ms1) (hb : EE S b ρ ms1 r2 ms2) (h1 : res ms2 r1 = some d) (h2 : res ms2 r2 = some d1) (h : eqO d d1 = some t) : ET S (.Compare a [.Eq] [b] pos) ρ ms t ms2 := by
  obtain ⟨c1, c2, rfl⟩ := eqO_some h
  exact et_eqD hm ha hb h1 h2 c1 c2
theorem ee_neO (hm : behindInMarks .NotEq b = false) (ha : EE S a ρ ms r1 ms1) (hb : EE S b ρ ms1 r2 ms2) (h1 : res ms2 r1 = some d) (h2 : res ms2 r2 = some d1) (h : eqO d d1 = some t) : EE S (.Compare a [.NotEq] [b] pos) ρ ms (.dat (.bool (!t))) ms2 := by
  obtain ⟨c1, c2, rfl⟩ := eqO_some h
  exact ee_neD hm ha hb h1 h2 c1 c2
theorem et_neO (hm : behindInMarks .NotEq b = false) (ha : EE S a ρ ms r1 ms1) (hb : EE S b ρ ms1 r2 ms2) (h1 : res ms2 r1 = some d) (h2 : res ms2 r2 = some d1) (h : eqO d d1 = some t) : ET S (.Compare a [.NotEq] [b] pos) ρ ms (!t) ms2 := by
  obtain ⟨c1, c2, rfl⟩ := eqO_some h
  exact et_neD hm ha hb h1 h2 c1 c2
/-- items of typed lists -/
theorem atI_map {α β : Type} (f : α → β) {xs : List α} {v : α} (h : ixO xs i = some v) : L2.atI (xs.map f) i = some (f v) := by
  unfold ixO L2.atI at h
  unfold L2.atI
  rw [List.length_map]
  cases q : ixN xs.length i with
  | none => rw [q] at h; cases h
  | some j =>
    rw [q] at h
    have h : xs[j]? = some v := h
    show (xs.map f)[j]? = some (f v)
    rw [List.getElem?_map, h]; rfl
theorem cutD_map {α : Type} (f : α → D) (xs : List α) (lo hi : Option Int) : cutD (xs.map f) lo hi = (cutL xs lo hi).map f := by
  unfold cutD cutL
  rw [List.length_map, List.map_take, List.map_drop]

/-! ### blocks by what they end with -/
def Ex (S : Sx) (sts : List Stmt) (ρ : Env') (ms : MS) (Φ : Out → Prop) : Prop := ∃ o, SSs S sts ρ ms o ∧ Φ o
theorem ex_nil (h : Φ (.nx ρ ms)) : Ex S [] ρ ms Φ := ⟨_, ss_nil, h⟩
theorem ex_cons (h : SS S st ρ ms (.nx ρ1 ms1)) (hr : Ex S rest ρ1 ms1 Φ) : Ex S (st :: rest) ρ ms Φ := by
  obtain ⟨o, h1, h2⟩ := hr
  exact ⟨o, ss_cons h h1, h2⟩
theorem ex_out (h : SS S st ρ ms o) (hn : o.isNx = false) (hΦ : Φ o) : Ex S (st :: rest) ρ ms Φ := ⟨o, ss_out h hn, hΦ⟩
def thenEx (S : Sx) (rest : List Stmt) (Φ : Out → Prop) : Out → Prop
  | .nx ρ ms => Ex S rest ρ ms Φ
  | o => Φ o
theorem ex_ifT (h : ET S c ρ ms t ms1) (ht : t = true) (hp : Ex S p ρ ms1 (thenEx S rest Φ)) : Ex S (.If c p q pos :: rest) ρ ms Φ := by
  obtain ⟨o, h1, h2⟩ := hp
  subst ht
  have hs : SS S (.If c p q pos) ρ ms o := ss_if h (fun _ => h1) (fun z => nomatch z)
  cases o with
  | nx ρ1 m1 => exact ex_cons hs h2
  | rt r m1 => exact ex_out hs rfl h2
  | bk r m1 => exact ex_out hs rfl h2
  | ct r m1 => exact ex_out hs rfl h2
theorem ex_ifF (h : ET S c ρ ms t ms1) (ht : t = false) (hp : Ex S q ρ ms1 (thenEx S rest Φ)) : Ex S (.If c p q pos :: rest) ρ ms Φ := by
  obtain ⟨o, h1, h2⟩ := hp
  subst ht
  have hs : SS S (.If c p q pos) ρ ms o := ss_if h (fun z => nomatch z) (fun _ => h1)
  cases o with
  | nx ρ1 m1 => exact ex_cons hs h2
  | rt r m1 => exact ex_out hs rfl h2
  | bk r m1 => exact ex_out hs rfl h2
  | ct r m1 => exact ex_out hs rfl h2
theorem ex_ifF0 (h : ET S c ρ ms t ms1) (ht : t = false) (hp : Ex S rest ρ ms1 Φ) : Ex S (.If c p [] pos :: rest) ρ ms Φ := ex_ifF h ht (ex_nil hp)
theorem Ex.imp {Ψ : Out → Prop} (h : Ex S sts ρ ms Φ) (f : ∀ o, Φ o → Ψ o) : Ex S sts ρ ms Ψ := by
  obtain ⟨o, h1, h2⟩ := h
  exact ⟨o, h1, f o h2⟩
/-- a block that runs through, to less knowledge -/
def Thru (ρ2 : Env') (ms1 : MS) : Out → Prop := fun o => ∃ ρ1 ex, o = .nx ρ1 (ms1 ++ ex) ∧ LeE ms1.length ρ1 ρ2
theorem ex_thru (h : Ex S sts ρ ms (Thru ρ2 ms1)) (hl : ms1.length = ms.length) : SSs S sts ρ ms (.nx ρ2 ms1) := by
  obtain ⟨o, h1, ρ1, ex, rfl, h2⟩ := h
  exact ss_weak h1 hl h2
/-- an if whose branches both run through to what is told -/
theorem ss_join (h : ET S c ρ ms t ms1) (hl1 : ms1.length = ms.length) (hl : ms2.length = ms.length) (h1 : t = true → Ex S p ρ ms1 (Thru ρ2 ms2)) (h0 : t = false → Ex S q ρ ms1 (Thru ρ2 ms2)) : SS S (.If c p q pos) ρ ms (.nx ρ2 ms2) :=
  ss_if h (fun z => ex_thru (h1 z) (by omega)) (fun z => ex_thru (h0 z) (by omega))
/-! loops -/
/-- what the end of a turn is -/
def TurnEnd {τ β : Type} (env : τ → Env') (mst : τ → MS) (rr : β → Rs) (mr : β → MS) : Lo τ β → Out → Prop
  | .go s, o => ∃ ρ1 ex, (o = .nx ρ1 (mst s ++ ex) ∨ o = .ct ρ1 (mst s ++ ex)) ∧ LeE (mst s).length ρ1 (env s)
  | .brk s, o => ∃ ρ1 ex, o = .bk ρ1 (mst s ++ ex) ∧ LeE (mst s).length ρ1 (env s)
  | .ret b, o => o = .rt (rr b) (mr b)
theorem lo_of {τ β : Type} {env : τ → Env'} {mst : τ → MS} {rr : β → Rs} {mr : β → MS} {lo : Lo τ β} {n : Nat} (hn : ∀ s, (mst s).length = n) (hm : ms.length = n) (h : Ex S bd ρ ms (TurnEnd env mst rr mr lo)) : LoOut S bd ρ ms env mst rr mr lo := by
  obtain ⟨o, h1, h2⟩ := h
  cases lo with
  | go s =>
    obtain ⟨ρ1, ex, h3, h4⟩ := h2
    rcases h3 with rfl | rfl
    · exact .inl (ss_weak h1 (by rw [hn, hm]) h4)
    · exact .inr (ss_weak_ct h1 (by rw [hn, hm]) h4)
  | brk s =>
    obtain ⟨ρ1, ex, rfl, h4⟩ := h2
    exact ss_weak_bk h1 (by rw [hn, hm]) h4
  | ret b =>
    have h2 : o = .rt (rr b) (mr b) := h2
    rw [h2] at h1
    exact h1
theorem forS_L {α τ : Type} {body : α → τ → Option τ} : ∀ {xs : List α} {s s' : τ}, forS body xs s = some s' → forL (β := Unit) (fun x s => (body x s).map .go) xs s = some (.brk s')
  | [], s, s', h => by cases h; rfl
  | x :: xs, s, s', h => by
    unfold forS at h
    obtain ⟨s1, h1, h2⟩ := bindS h
    unfold forL
    rw [h1]
    exact forS_L h2
theorem whileS_L {τ : Type} {c : τ → Option Bool} {body : τ → Option τ} : ∀ {n : Nat} {s s' : τ}, whileS c body n s = some s' → whileL (β := Unit) c (fun s => (body s).map .go) n s = some (.brk s')
  | 0, s, s', h => by cases h
  | n + 1, s, s', h => by
    unfold whileS at h
    obtain ⟨t, h1, h2⟩ := bindS h
    unfold whileL
    rw [h1]
    cases t with
    | true =>
      obtain ⟨s1, h3, h4⟩ := bindS (iteT' rfl h2)
      rw [Option.bind_some, if_pos rfl, h3]
      exact whileS_L h4
    | false =>
      cases (someS (iteF' rfl h2) : _ = s')
      rfl
/-- where nothing leaves -/
theorem hpn : ∀ X : Cx, X.xe = (fun _ _ => False) → PassesOwn (model X.prog X.w) X.A X.env X.xe := fun X h => by rw [h]; exact PassesOwn.never
theorem ss_forS {α τ : Type} (emb : α → D) (xs : List α) (body : α → τ → Option τ) (env : τ → Env') (mst : τ → MS) (n : Nat) {G : MS → Prop} {s0 s1 : τ} (hfs : ∀ env x, foldedSetIterable iter env x = pure x)
    (hi : IT S tg iter ρ ms (xs.map emb) (mst s0) G) (hG : ∀ s, G (mst s)) (hn : ∀ s, (mst s).length = n) (h0 : LeE n ρ (env s0))
    (hb : ∀ x ∈ xs, ∀ s s', body x s = some s' → ∃ ρx sl, EG S tg (emb x) (env s) ρx sl ∧ Ex S bd ρx (mst s) (TurnEnd env mst (fun _ : Unit => Rs.dat .none) (fun _ => []) (.go s')))
    (hf : forS body xs s0 = some s1) : SS S (.For tg iter bd [] pos) ρ ms (.nx (env s1) (mst s1)) :=
  ss_for (β := Unit) hfs hpn emb xs (fun x s => (body x s).map .go) env mst (fun _ => .dat .none) (fun _ => []) n hi hG hn h0 (fun x hx s o ho => by
    cases hbo : body x s with
    | none => rw [hbo] at ho; cases ho
    | some s' =>
      rw [hbo] at ho
      cases (Option.some.inj ho : _ = o)
      obtain ⟨ρx, sl, eg, he⟩ := hb x hx s s' hbo
      exact ⟨ρx, sl, eg, lo_of hn (hn s) he⟩) (forS_L hf)
theorem ss_whileS {τ : Type} (cm : τ → Option Bool) (body : τ → Option τ) (env : τ → Env') (mst : τ → MS) (n : Nat) {s0 s1 : τ} (N : Nat)
    (hms : ms = mst s0) (hn : ∀ s, (mst s).length = n) (h0 : LeE n ρ (env s0)) (hc : ∀ s t, cm s = some t → ET S c (env s) (mst s) t (mst s))
    (hb : ∀ s s', cm s = some true → body s = some s' → Ex S bd (env s) (mst s) (TurnEnd env mst (fun _ : Unit => Rs.dat .none) (fun _ => []) (.go s')))
    (hf : whileS cm body N s0 = some s1) : SS S (.While c bd [] pos) ρ ms (.nx (env s1) (mst s1)) :=
  ss_while (β := Unit) hpn cm (fun s => (body s).map .go) env mst (fun _ => .dat .none) (fun _ => []) n N hms hn h0 hc (fun s o hc' ho => by
    cases hbo : body s with
    | none => rw [hbo] at ho; cases ho
    | some s' =>
      rw [hbo] at ho
      cases (Option.some.inj ho : _ = o)
      exact lo_of hn (hn s) (hb s s' hc' hbo)) (whileS_L hf)
end
end Abs
namespace Abs
open PySem PySem.Spec PyProof.Rows L2
theorem bt_len : bootBuiltins "len" = some (.builtin "len") := by decide +kernel
theorem bt_abs : bootBuiltins "abs" = some (.builtin "abs") := by decide +kernel
theorem bt_max : bootBuiltins "max" = some (.builtin "max") := by decide +kernel
theorem bt_min : bootBuiltins "min" = some (.builtin "min") := by decide +kernel
theorem bt_sum : bootBuiltins "sum" = some (.builtin "sum") := by decide +kernel
theorem bt_all : bootBuiltins "all" = some (.builtin "all") := by decide +kernel
theorem bt_any : bootBuiltins "any" = some (.builtin "any") := by decide +kernel
theorem bt_isi : bootBuiltins "isinstance" = some (.builtin "isinstance") := by decide +kernel
theorem bt_sorted : bootBuiltins "sorted" = some (.builtin "sorted") := by decide +kernel
theorem bt_int : bootBuiltins "int" = some (.type "int") := by decide +kernel
theorem bt_bool : bootBuiltins "bool" = some (.type "bool") := by decide +kernel
theorem bt_str : bootBuiltins "str" = some (.type "str") := by decide +kernel
theorem bt_list : bootBuiltins "list" = some (.type "list") := by decide +kernel
theorem bt_tuple : bootBuiltins "tuple" = some (.type "tuple") := by decide +kernel
section
variable {S : Sx} {K : PySem.W.Frag} {as as1 as2 : List Addr} {H H1 H2 H' : Hp} {ms ms1 ms2 ms3 ms' mc tl : MS} {ρ ρ1 ρ2 ρ' : Env'} {σ : L2.St} {e a b c tg iter elt : Expr} {es ifs rest : List Expr} {r r' r1 r2 r3 : Rs} {rs : List Rs} {o : Out} {st : Stmt} {bd sts p q : List Stmt} {pos px : Pos} {t u : Bool} {i j k : Int} {x y z : Str} {d d1 d2 d3 : D} {ds ds1 ds2 : List D} {Φ : Out → Prop}

/-! ### built-in functions by name -/
theorem ee_len (hm : S.mg "len" = none) (hg : S.sc.names.lookup (Str.ofString "len") = some .globalImplicit) (ha : EA S [e] ρ ms [r] ms1) (hl : lres ms1 r = some ds)
    (he : ∀ env, starEach [e] env = (false, eval e env) :: starEach [] env := by intro _; rfl) : EE S (.Call (.Name "len" px) [e] [] pos) ρ ms (.dat (.int (ds.length : Int))) ms1 :=
  ee_cb (fun X hX => by have h := call_len_seq (X := X); rw [hX.k] at h; exact h) hm hg bt_len (cr_len hl) ha (he := he) (hpl := fun _ => rfl)
theorem ee_lenT (hm : S.mg "len" = none) (hg : S.sc.names.lookup (Str.ofString "len") = some .globalImplicit) (ha : EA S [e] ρ ms [.dat (.tuple ds)] ms1)
    (he : ∀ env, starEach [e] env = (false, eval e env) :: starEach [] env := by intro _; rfl) : EE S (.Call (.Name "len" px) [e] [] pos) ρ ms (.dat (.int (ds.length : Int))) ms1 :=
  ee_cb (fun X hX => by have h := call_len_seq (X := X); rw [hX.k] at h; exact h) hm hg bt_len cr_lenT ha (he := he) (hpl := fun _ => rfl)
theorem ee_abs (hm : S.mg "abs" = none) (hg : S.sc.names.lookup (Str.ofString "abs") = some .globalImplicit) (ha : EA S [e] ρ ms [.dat (.int i)] ms1)
    (he : ∀ env, starEach [e] env = (false, eval e env) :: starEach [] env := by intro _; rfl) : EE S (.Call (.Name "abs" px) [e] [] pos) ρ ms (.dat (.int (i.natAbs : Int))) ms1 :=
  ee_cb (fun X hX => call_abs) hm hg bt_abs cr_abs ha (he := he) (hpl := fun _ => rfl)
theorem ee_max2 (hm : S.mg "max" = none) (hg : S.sc.names.lookup (Str.ofString "max") = some .globalImplicit) (ha : EA S [a, b] ρ ms [.dat (.int i), .dat (.int j)] ms1)
    (he : ∀ env, starEach [a, b] env = (false, eval a env) :: starEach [b] env := by intro _; rfl) (hpl : ∀ env, (backTo pos (starEach [b] env)).any (·.1) = false := by intro _; rfl) : EE S (.Call (.Name "max" px) [a, b] [] pos) ρ ms (.dat (.int (max i j))) ms1 :=
  ee_cb (fun X hX => call_max2 hX.calm) hm hg bt_max cr_max2' ha (he := he) (hpl := hpl)
theorem ee_min2 (hm : S.mg "min" = none) (hg : S.sc.names.lookup (Str.ofString "min") = some .globalImplicit) (ha : EA S [a, b] ρ ms [.dat (.int i), .dat (.int j)] ms1)
    (he : ∀ env, starEach [a, b] env = (false, eval a env) :: starEach [b] env := by intro _; rfl) (hpl : ∀ env, (backTo pos (starEach [b] env)).any (·.1) = false := by intro _; rfl) : EE S (.Call (.Name "min" px) [a, b] [] pos) ρ ms (.dat (.int (min i j))) ms1 :=
  ee_cb (fun X hX => call_min2 hX.calm) hm hg bt_min cr_min2' ha (he := he) (hpl := hpl)
theorem ee_intI (hm : S.mg "int" = none) (hg : S.sc.names.lookup (Str.ofString "int") = some .globalImplicit) (ha : EA S [e] ρ ms [.dat (.int i)] ms1)
    (he : ∀ env, starEach [e] env = (false, eval e env) :: starEach [] env := by intro _; rfl) : EE S (.Call (.Name "int" px) [e] [] pos) ρ ms (.dat (.int i)) ms1 :=
  ee_cty (fun X hX => call_int1) hm hg bt_int cr_intI ha (he := he) (hpl := fun _ => rfl)
theorem ee_intB (hm : S.mg "int" = none) (hg : S.sc.names.lookup (Str.ofString "int") = some .globalImplicit) (ha : EA S [e] ρ ms [.dat (.bool t)] ms1)
    (he : ∀ env, starEach [e] env = (false, eval e env) :: starEach [] env := by intro _; rfl) : EE S (.Call (.Name "int" px) [e] [] pos) ρ ms (.dat (.int (if t then 1 else 0))) ms1 :=
  ee_cty (fun X hX => call_int1) hm hg bt_int cr_intB ha (he := he) (hpl := fun _ => rfl)
theorem ee_sum {ns : List Int} (hm : S.mg "sum" = none) (hg : S.sc.names.lookup (Str.ofString "sum") = some .globalImplicit) (ha : EA S [e] ρ ms [r] ms1) (hl : lres ms1 r = some (ns.map .int))
    (he : ∀ env, starEach [e] env = (false, eval e env) :: starEach [] env := by intro _; rfl) : EE S (.Call (.Name "sum" px) [e] [] pos) ρ ms (.dat (.int ns.sum)) ms1 :=
  ee_cb (fun X hX => by have h := cr_sum (X := X) hX.calm; rw [hX.k] at h; exact h) hm hg bt_sum (cr_sum' hl) ha (he := he) (hpl := fun _ => rfl)
theorem ee_all {bs : List Bool} (hm : S.mg "all" = none) (hg : S.sc.names.lookup (Str.ofString "all") = some .globalImplicit) (ha : EA S [e] ρ ms [r] ms1) (hl : lres ms1 r = some (bs.map .bool))
    (he : ∀ env, starEach [e] env = (false, eval e env) :: starEach [] env := by intro _; rfl) : EE S (.Call (.Name "all" px) [e] [] pos) ρ ms (.dat (.bool (bs.all id))) ms1 :=
  ee_cb (fun X hX => by have h := cr_all (X := X) hX.calm; rw [hX.k] at h; exact h) hm hg bt_all (cr_all' hl) ha (he := he) (hpl := fun _ => rfl)
theorem ee_any {bs : List Bool} (hm : S.mg "any" = none) (hg : S.sc.names.lookup (Str.ofString "any") = some .globalImplicit) (ha : EA S [e] ρ ms [r] ms1) (hl : lres ms1 r = some (bs.map .bool))
    (he : ∀ env, starEach [e] env = (false, eval e env) :: starEach [] env := by intro _; rfl) : EE S (.Call (.Name "any" px) [e] [] pos) ρ ms (.dat (.bool (bs.any id))) ms1 :=
  ee_cb (fun X hX => by have h := cr_any (X := X) hX.calm; rw [hX.k] at h; exact h) hm hg bt_any (cr_any' hl) ha (he := he) (hpl := fun _ => rfl)
theorem ee_maxL {ns : List Int} (hm : S.mg "max" = none) (hg : S.sc.names.lookup (Str.ofString "max") = some .globalImplicit) (ha : EA S [e] ρ ms [r] ms1) (hl : lres ms1 r = some (ns.map .int)) (h : maxL ns = some i)
    (he : ∀ env, starEach [e] env = (false, eval e env) :: starEach [] env := by intro _; rfl) : EE S (.Call (.Name "max" px) [e] [] pos) ρ ms (.dat (.int i)) ms1 :=
  ee_cb (fun X hX => by have h := cr_max (X := X) hX.calm; rw [hX.k] at h; exact h) hm hg bt_max (cr_maxL hl (maxL_some h).1 (maxL_some h).2) ha (he := he) (hpl := fun _ => rfl)
theorem ee_minL {ns : List Int} (hm : S.mg "min" = none) (hg : S.sc.names.lookup (Str.ofString "min") = some .globalImplicit) (ha : EA S [e] ρ ms [r] ms1) (hl : lres ms1 r = some (ns.map .int)) (h : minL ns = some i)
    (he : ∀ env, starEach [e] env = (false, eval e env) :: starEach [] env := by intro _; rfl) : EE S (.Call (.Name "min" px) [e] [] pos) ρ ms (.dat (.int i)) ms1 :=
  ee_cb (fun X hX => by have h := cr_min (X := X) hX.calm; rw [hX.k] at h; exact h) hm hg bt_min (cr_minL hl (minL_some h).1 (minL_some h).2) ha (he := he) (hpl := fun _ => rfl)
theorem ee_tuple (hm : S.mg "tuple" = none) (hg : S.sc.names.lookup (Str.ofString "tuple") = some .globalImplicit) (ha : EA S [e] ρ ms [r] ms1) (hl : lres ms1 r = some ds)
    (he : ∀ env, starEach [e] env = (false, eval e env) :: starEach [] env := by intro _; rfl) : EE S (.Call (.Name "tuple" px) [e] [] pos) ρ ms (.dat (.tuple ds)) ms1 :=
  ee_cty (fun X hX => by have h := call_tuple_of (X := X); rw [hX.k] at h; exact h) hm hg bt_tuple (cr_tupL hl) ha (he := he) (hpl := fun _ => rfl)
theorem ee_tupleT (hm : S.mg "tuple" = none) (hg : S.sc.names.lookup (Str.ofString "tuple") = some .globalImplicit) (ha : EA S [e] ρ ms [.dat (.tuple ds)] ms1)
    (he : ∀ env, starEach [e] env = (false, eval e env) :: starEach [] env := by intro _; rfl) : EE S (.Call (.Name "tuple" px) [e] [] pos) ρ ms (.dat (.tuple ds)) ms1 :=
  ee_cty (fun X hX => by have h := call_tuple_of (X := X); rw [hX.k] at h; exact h) hm hg bt_tuple cr_tupT ha (he := he) (hpl := fun _ => rfl)
theorem ee_list (hm : S.mg "list" = none) (hg : S.sc.names.lookup (Str.ofString "list") = some .globalImplicit) (ha : EA S [e] ρ ms [r] ms1) (hl : lres ms1 r = some ds)
    (he : ∀ env, starEach [e] env = (false, eval e env) :: starEach [] env := by intro _; rfl) : EE S (.Call (.Name "list" px) [e] [] pos) ρ ms (.new ds) ms1 :=
  ee_cty (fun X hX => by have h := call_list_of (X := X); rw [hX.k] at h; exact h) hm hg bt_list (cr_listL hl) ha (he := he) (hpl := fun _ => rfl)
theorem ee_listT (hm : S.mg "list" = none) (hg : S.sc.names.lookup (Str.ofString "list") = some .globalImplicit) (ha : EA S [e] ρ ms [.dat (.tuple ds)] ms1)
    (he : ∀ env, starEach [e] env = (false, eval e env) :: starEach [] env := by intro _; rfl) : EE S (.Call (.Name "list" px) [e] [] pos) ρ ms (.new ds) ms1 :=
  ee_cty (fun X hX => by have h := call_list_of (X := X); rw [hX.k] at h; exact h) hm hg bt_list cr_listT ha (he := he) (hpl := fun _ => rfl)
theorem ee_isi {T : String} (hm : S.mg "isinstance" = none) (hg : S.sc.names.lookup (Str.ofString "isinstance") = some .globalImplicit) (h : PySem.W.kitOne S.K (.type (tyD d)) (.type T) = some t) (ha : EA S [a, b] ρ ms [.dat d, .ty T] ms1)
    (he : ∀ env, starEach [a, b] env = (false, eval a env) :: starEach [b] env := by intro _; rfl) (hpl : ∀ env, (backTo pos (starEach [b] env)).any (·.1) = false := by intro _; rfl) : EE S (.Call (.Name "isinstance" px) [a, b] [] pos) ρ ms (.dat (.bool t)) ms1 :=
  ee_cb (fun X hX => by have h := call_isi (X := X); rw [hX.k] at h; exact h) hm hg bt_isi (cr_isi h (.ty T)) ha (he := he) (hpl := hpl)

/-! ### choices without conditions of their own -/
theorem ee_andV (h : EE S a ρ ms (.dat (.bool t)) ms1) (h1 : t = true → EE S (.BoolOp .And (b :: rest) pos) ρ ms1 (.dat (.bool u)) ms1) : EE S (.BoolOp .And (a :: b :: rest) pos) ρ ms (.dat (.bool (t && u))) ms1 := by
  refine ee_and h (fun z => ?_) (fun z => ?_)
  · rw [z]; exact h1 z
  · rw [z]; exact ⟨rfl, rfl⟩
theorem ee_orV (h : EE S a ρ ms (.dat (.bool t)) ms1) (h1 : t = false → EE S (.BoolOp .Or (b :: rest) pos) ρ ms1 (.dat (.bool u)) ms1) : EE S (.BoolOp .Or (a :: b :: rest) pos) ρ ms (.dat (.bool (t || u))) ms1 := by
  refine ee_or h (fun z => ?_) (fun z => ?_)
  · rw [z]; exact h1 z
  · rw [z]; exact ⟨rfl, rfl⟩
theorem ew_andV (h : ET S a ρ ms t ms1) (h1 : t = true → EW S (.BoolOp .And (b :: rest) pos) ρ ms1 u ms1) : EW S (.BoolOp .And (a :: b :: rest) pos) ρ ms (t && u) ms1 := by
  refine ew_and h (fun z => ?_) (fun z => ?_)
  · rw [z]; exact h1 z
  · rw [z]; exact ⟨rfl, rfl⟩
theorem ew_orV (h : ET S a ρ ms t ms1) (h1 : t = false → EW S (.BoolOp .Or (b :: rest) pos) ρ ms1 u ms1) : EW S (.BoolOp .Or (a :: b :: rest) pos) ρ ms (t || u) ms1 := by
  refine ew_or h (fun z => ?_) (fun z => ?_)
  · rw [z]; exact h1 z
  · rw [z]; exact ⟨rfl, rfl⟩
/-- with conditions: told by the choice's own outcome -/
theorem ee_andO {m : Option Bool} (h : EE S a ρ ms (.dat (.bool t)) ms1) (hm : (if t = true then m else some false) = some u) (h1 : t = true → m = some u → EE S (.BoolOp .And (b :: rest) pos) ρ ms1 (.dat (.bool u)) ms1) : EE S (.BoolOp .And (a :: b :: rest) pos) ρ ms (.dat (.bool u)) ms1 :=
  ee_and h (fun z => h1 z (iteT' z hm)) (fun z => ⟨(someS (iteF' z hm)).symm, rfl⟩)
theorem ee_orO {m : Option Bool} (h : EE S a ρ ms (.dat (.bool t)) ms1) (hm : (if t = true then some true else m) = some u) (h1 : t = false → m = some u → EE S (.BoolOp .Or (b :: rest) pos) ρ ms1 (.dat (.bool u)) ms1) : EE S (.BoolOp .Or (a :: b :: rest) pos) ρ ms (.dat (.bool u)) ms1 :=
  ee_or h (fun z => h1 z (iteF' z hm)) (fun z => ⟨(someS (iteT' z hm)).symm, rfl⟩)
theorem ew_andO {m : Option Bool} (h : ET S a ρ ms t ms1) (hm : (if t = true then m else some false) = some u) (h1 : t = true → m = some u → EW S (.BoolOp .And (b :: rest) pos) ρ ms1 u ms1) : EW S (.BoolOp .And (a :: b :: rest) pos) ρ ms u ms1 :=
  ew_and h (fun z => h1 z (iteT' z hm)) (fun z => ⟨(someS (iteF' z hm)).symm, rfl⟩)
theorem ew_orO {m : Option Bool} (h : ET S a ρ ms t ms1) (hm : (if t = true then some true else m) = some u) (h1 : t = false → m = some u → EW S (.BoolOp .Or (b :: rest) pos) ρ ms1 u ms1) : EW S (.BoolOp .Or (a :: b :: rest) pos) ρ ms u ms1 :=
  ew_or h (fun z => h1 z (iteF' z hm)) (fun z => ⟨(someS (iteT' z hm)).symm, rfl⟩)
theorem ee_ifV {α : Type} (em : α → D) {v w : α} (h : ET S c ρ ms t ms1) (h1 : t = true → EE S a ρ ms1 (.dat (em v)) ms1) (h0 : t = false → EE S b ρ ms1 (.dat (em w)) ms1) : EE S (.IfExp c a b pos) ρ ms (.dat (em (if t = true then v else w))) ms1 := by
  refine ee_if h (fun z => ?_) (fun z => ?_)
  · rw [if_pos z]; exact h1 z
  · rw [if_neg (by rw [z]; decide)]; exact h0 z
theorem ee_ifO {α : Type} (em : α → D) {v : α} {m m' : Option α} (h : ET S c ρ ms t ms1) (hm : (if t = true then m else m') = some v) (h1 : t = true → m = some v → EE S a ρ ms1 (.dat (em v)) ms1) (h0 : t = false → m' = some v → EE S b ρ ms1 (.dat (em v)) ms1) : EE S (.IfExp c a b pos) ρ ms (.dat (em v)) ms1 :=
  ee_if h (fun z => h1 z (iteT' z hm)) (fun z => h0 z (iteF' z hm))
theorem ee_is (h : EE S e ρ ms r ms1) (q : r = r') : EE S e ρ ms r' ms1 := q ▸ h
theorem et_is (h : ET S e ρ ms t ms1) (q : t = u) : ET S e ρ ms u ms1 := q ▸ h
/-- x in a tuple of ints -/
theorem inV_int {i : Int} : ∀ {ns : List Int}, inV (.int i) (ns.map V.int) = decide (i ∈ ns)
  | [] => by unfold inV; simp
  | n :: ns => by
    have ih := inV_int (i := i) (ns := ns)
    unfold inV at ih ⊢
    rw [List.map_cons, List.any_cons, ih]
    show (n == i || decide (i ∈ ns)) = _
    by_cases h : n = i
    · subst h; simp
    · have h' : ¬ i = n := fun z => h z.symm
      simp [h, h']
theorem op2_inI {ns : List Int} : Op2 S (rIn S.K false) (.dat (.int i)) (.dat (.tuple (ns.map .int))) ms (.dat (.bool (decide (i ∈ ns)))) := fun as H0 H x y s h1 h2 Q k => by
  obtain ⟨p, xs, rfl, hq, ra⟩ := h2.tup
  rw [ra.ints] at hq
  refine ⟨p, _, rfl, .inr hq, by rw [h1.int]; rfl, by simp [flatV], ?_⟩
  rw [h1.int, if_neg (by decide), inV_int]
  exact k _ H .refl s rBool
theorem ee_inI {ns : List Int} (hm : behindInMarks .In b = false) (ha : EE S a ρ ms (.dat (.int i)) ms1) (hb : EE S b ρ ms1 (.dat (.tuple (ns.map .int))) ms2) : EE S (.Compare a [.In] [b] pos) ρ ms (.dat (.bool (decide (i ∈ ns)))) ms2 :=
  ee_cmp (fun X hX => by have h := op_in_seq (X := X); rw [hX.k] at h; exact h) hm op2_inI ha hb
theorem et_inI {ns : List Int} (hm : behindInMarks .In b = false) (ha : EE S a ρ ms (.dat (.int i)) ms1) (hb : EE S b ρ ms1 (.dat (.tuple (ns.map .int))) ms2) : ET S (.Compare a [.In] [b] pos) ρ ms (decide (i ∈ ns)) ms2 :=
  et_cmp (fun X hX => by have h := op_in_seq (X := X); rw [hX.k] at h; exact h) hm op2_inI ha hb
/-- bools: is -/
theorem op2_isB : Op2 S rIsB (.dat (.bool t)) (.dat (.bool u)) ms (.dat (.bool (decide (t = u)))) := fun as H0 H x y s h1 h2 Q k => ⟨t, u, h1.bool, h2.bool, k _ H .refl s rBool⟩
theorem op2_notB : Op2 S rNotB (.dat (.bool t)) (.dat (.bool u)) ms (.dat (.bool (!decide (t = u)))) := fun as H0 H x y s h1 h2 Q k => ⟨t, u, h1.bool, h2.bool, k _ H .refl s rBool⟩
theorem ee_isB (hm : behindInMarks .Is b = false) (ha : EE S a ρ ms (.dat (.bool t)) ms1) (hb : EE S b ρ ms1 (.dat (.bool u)) ms2) : EE S (.Compare a [.Is] [b] pos) ρ ms (.dat (.bool (decide (t = u)))) ms2 := ee_cmp (fun X hX => op_isBl) hm op2_isB ha hb
theorem et_isB (hm : behindInMarks .Is b = false) (ha : EE S a ρ ms (.dat (.bool t)) ms1) (hb : EE S b ρ ms1 (.dat (.bool u)) ms2) : ET S (.Compare a [.Is] [b] pos) ρ ms (decide (t = u)) ms2 := et_cmp (fun X hX => op_isBl) hm op2_isB ha hb
theorem ee_notB (hm : behindInMarks .IsNot b = false) (ha : EE S a ρ ms (.dat (.bool t)) ms1) (hb : EE S b ρ ms1 (.dat (.bool u)) ms2) : EE S (.Compare a [.IsNot] [b] pos) ρ ms (.dat (.bool (!decide (t = u)))) ms2 := ee_cmp (fun X hX => op_notBl) hm op2_notB ha hb
theorem et_notB (hm : behindInMarks .IsNot b = false) (ha : EE S a ρ ms (.dat (.bool t)) ms1) (hb : EE S b ρ ms1 (.dat (.bool u)) ms2) : ET S (.Compare a [.IsNot] [b] pos) ρ ms (!decide (t = u)) ms2 := et_cmp (fun X hX => op_notBl) hm op2_notB ha hb
/-- lists and tuples put together -/
theorem op2_cat (h1 : lres ms r1 = some ds1) (h2 : lres ms r2 = some ds2) (hz : ds1.length + ds2.length ≤ sizeLine) (n1 : ∀ ns, r1 ≠ .scr ns) (n2 : ∀ ns, r2 ≠ .scr ns) : Op2 S rCat r1 r2 ms (.new (ds1 ++ ds2)) := fun as H0 H x y s q1 q2 Q k => by
  have tr : ∀ {v : V} {r : Rs} {ds : List D}, RsOk S.K as H0 H v r → lres ms r = some ds → (∀ ns, r ≠ .scr ns) → ∃ p xs, v = .ref p ∧ H p = some (.lst xs) ∧ RA S.K as H xs ds := fun {v r ds} q h n => by
    cases r with
    | dat d =>
      cases d <;> try (cases h; done)
      cases h
      unfold RsOk R at q
      obtain ⟨p, xs, e, n, hp, q⟩ := q
      exact ⟨p, xs, e, hp, q⟩
    | new ds =>
      cases h
      obtain ⟨p, xs, e, n, np, hp, q⟩ := q
      exact ⟨p, xs, e, hp, RA.sub (fun a z => List.mem_cons_of_mem _ z) q⟩
    | mu k =>
      obtain ⟨p, rfl, hk⟩ := q
      obtain ⟨xs, q1, q2⟩ := s.2.2 k p ds hk h
      exact ⟨p, xs, rfl, q1, q2⟩
    | scr ns => exact absurd rfl (n ns)
    | ty T => cases h
  obtain ⟨p1, xs, rfl, e1, ra1⟩ := tr q1 h1 n1
  obtain ⟨p2, ys, rfl, e2, ra2⟩ := tr q2 h2 n2
  exact ⟨p1, p2, xs, ys, rfl, rfl, e1, e2, by rw [ra1.length, ra2.length]; exact hz, fun q hq => k _ _ (.new hq) (s.new hq) (.mkNew s .refl hq (ra1.app ra2))⟩
theorem ee_cat {α : Type} (f : α → D) {xs ys zs : List α} (ha : EE S a ρ ms r1 ms1) (hb : EE S b ρ ms1 r2 ms2) (h1 : lres ms2 r1 = some (xs.map f)) (h2 : lres ms2 r2 = some (ys.map f)) (h : catO xs ys = some zs) (n1 : ∀ ns, r1 ≠ .scr ns := by intro _ h; cases h) (n2 : ∀ ns, r2 ≠ .scr ns := by intro _ h; cases h) :
    EE S (.BinOp a .Add b pos) ρ ms (.new (zs.map f)) ms2 := by
  obtain ⟨hz, rfl⟩ := catO_some h
  rw [List.map_append]
  exact ee_op (fun _ _ => op_cat) (op2_cat h1 h2 (by rw [List.length_map, List.length_map]; exact hz) n1 n2) ha hb

/-! ### muOk: which lists an own def is given -/
theorem mu_nil : ∀ j, Rs.mu j ∈ ([] : List Rs) → S.n0 ≤ j ∨ S.tch j = true := fun _ h => by simp at h
theorem mu_dat (h : ∀ j, Rs.mu j ∈ rs → S.n0 ≤ j ∨ S.tch j = true) : ∀ j, Rs.mu j ∈ (.dat d :: rs) → S.n0 ≤ j ∨ S.tch j = true := fun j z => by
  rcases List.mem_cons.mp z with z | z
  · cases z
  · exact h j z
theorem mu_scr {ns : List Int} (h : ∀ j, Rs.mu j ∈ rs → S.n0 ≤ j ∨ S.tch j = true) : ∀ j, Rs.mu j ∈ (.scr ns :: rs) → S.n0 ≤ j ∨ S.tch j = true := fun j z => by
  rcases List.mem_cons.mp z with z | z
  · cases z
  · exact h j z
theorem mu_mu {k : Nat} (hk : S.n0 ≤ k ∨ S.tch k = true) (h : ∀ j, Rs.mu j ∈ rs → S.n0 ≤ j ∨ S.tch j = true) : ∀ j, Rs.mu j ∈ (.mu k :: rs) → S.n0 ≤ j ∨ S.tch j = true := fun j z => by
  rcases List.mem_cons.mp z with z | z
  · cases z; exact hk
  · exact h j z
theorem nomu_nil : ∀ j, ¬ Rs.mu j ∈ ([] : List Rs) := fun _ h => by simp at h
theorem nomu_dat (h : ∀ j, ¬ Rs.mu j ∈ rs) : ∀ j, ¬ Rs.mu j ∈ (.dat d :: rs) := fun j z => by
  rcases List.mem_cons.mp z with z | z
  · cases z
  · exact h j z
/-! ### ends of bodies -/
theorem fin_dat : Fin ms (.rt (.dat d) ms) (.dat d) := by
  have h := Fin.dat (ms' := ms) (d := d) (ex := [])
  rw [List.append_nil] at h; exact h
theorem fin_new : Fin ms (.rt (.new ds) ms) (.new ds) := by
  have h := Fin.new (ms' := ms) (ds := ds) (ex := [])
  rw [List.append_nil] at h; exact h
theorem fin_newd : Fin ms (.rt (.new ds) ms) (.dat (.list ds)) := by
  have h := Fin.newd (ms' := ms) (ds := ds) (ex := [])
  rw [List.append_nil] at h; exact h
theorem fin_none : Fin ms (.nx ρ ms) (.dat .none) := by
  have h := Fin.none (ms' := ms) (ρ := ρ) (ex := [])
  rw [List.append_nil] at h; exact h
theorem fin_noneX : Fin ms (.nx ρ (ms ++ tl)) (.dat .none) := .none
theorem turn_go {τ β : Type} {env : τ → Env'} {mst : τ → MS} {rr : β → Rs} {mr : β → MS} {s : τ} (h : LeE (mst s).length ρ (env s)) : TurnEnd env mst rr mr (.go s) (.nx ρ (mst s)) := ⟨ρ, [], .inl (by rw [List.append_nil]), h⟩
theorem turn_goX {τ β : Type} {env : τ → Env'} {mst : τ → MS} {rr : β → Rs} {mr : β → MS} {s : τ} (h : LeE (mst s).length ρ (env s)) : TurnEnd env mst rr mr (.go s) (.nx ρ (mst s ++ tl)) := ⟨ρ, tl, .inl rfl, h⟩
theorem turn_brk {τ β : Type} {env : τ → Env'} {mst : τ → MS} {rr : β → Rs} {mr : β → MS} {s : τ} (h : LeE (mst s).length ρ (env s)) : TurnEnd env mst rr mr (.brk s) (.bk ρ (mst s)) := ⟨ρ, [], by rw [List.append_nil], h⟩
theorem turn_ct {τ β : Type} {env : τ → Env'} {mst : τ → MS} {rr : β → Rs} {mr : β → MS} {s : τ} (h : LeE (mst s).length ρ (env s)) : TurnEnd env mst rr mr (.go s) (.ct ρ (mst s)) := ⟨ρ, [], .inr (by rw [List.append_nil]), h⟩
theorem thru_nx (h : LeE ms.length ρ ρ2) : Thru ρ2 ms (.nx ρ ms) := ⟨ρ, [], by rw [List.append_nil], h⟩

/-! ### comprehensions -/
theorem mapO_fmL {α β : Type} {m : α → Option β} : ∀ {xs : List α} {ys : List β}, mapO m xs = some ys → fmL (τ := Unit) (fun x s => (m x).map fun y => (some y, s)) xs () = some (ys, ())
  | [], ys, h => by cases h; rfl
  | x :: xs, ys, h => by
    unfold mapO at h
    obtain ⟨y, h1, h2⟩ := bindS h
    cases q : mapO m xs with
    | none => rw [q] at h2; cases h2
    | some zs =>
      rw [q] at h2
      cases (someS h2 : _ = ys)
      unfold fmL
      rw [h1, Option.map_some, Option.bind_some, mapO_fmL q]
      rfl
theorem fmO_fmL {α β : Type} {m : α → Option (Option β)} : ∀ {xs : List α} {ys : List β}, fmO m xs = some ys → fmL (τ := Unit) (fun x s => (m x).map fun y => (y, s)) xs () = some (ys, ())
  | [], ys, h => by cases h; rfl
  | x :: xs, ys, h => by
    unfold fmO at h
    obtain ⟨o, h1, h2⟩ := bindS h
    cases q : fmO m xs with
    | none => rw [q] at h2; cases h2
    | some zs =>
      rw [q] at h2
      cases (someS h2 : _ = ys)
      unfold fmL
      rw [h1, Option.map_some, Option.bind_some, fmO_fmL q]
      cases o <;> rfl
theorem mapS_fmL {α β τ : Type} {m : α → τ → Option (β × τ)} : ∀ {xs : List α} {s : τ} {q : List β × τ}, mapS m xs s = some q → fmL (fun x s => (m x s).map fun y => (some y.1, y.2)) xs s = some q
  | [], s, q, h => by cases h; rfl
  | x :: xs, s, q, h => by
    unfold mapS at h
    obtain ⟨y, h1, h2⟩ := bindS h
    cases q' : mapS m xs y.2 with
    | none => rw [q'] at h2; cases h2
    | some zs =>
      rw [q'] at h2
      cases (someS h2 : _ = q)
      unfold fmL
      rw [h1, Option.map_some, Option.bind_some, mapS_fmL q']
      rfl
/-- what a pure turn asks -/
def LcP {α β : Type} (S : Sx) (tg elt : Expr) (ρ : Env') (vs : List Nat) (ms : MS) (emb : α → D) (emb' : β → D) (x : α) (y : β) : Prop :=
  ∃ (ρx : Env') (sl : List Nat), (∀ i ∈ sl, i ∈ vs) ∧ EG S tg (emb x) ρ ρx sl ∧ ∃ r, EE S elt ρx ms r ms ∧ frz r = some (emb' y)
theorem turn_P {α β : Type} {S : Sx} {ρ : Env'} {vs : List Nat} {emb : α → D} {emb' : β → D} {m : α → Option β} {ms : MS} {x : α} {s s' : Unit} {o : Option β} {ex : MS}
    (hb : ∀ y, m x = some y → LcP S tg elt ρ vs (ms ++ ex) emb emb' x y) (h : ((m x).map fun y => (some y, s)) = some (o, s')) : LcTurn S tg elt [] ρ vs emb emb' (fun _ : Unit => ms) x s o s' ex := by
  cases q : m x with
  | none => rw [q] at h; cases h
  | some y =>
    rw [q] at h
    cases (someS h : _ = (o, s'))
    obtain ⟨ρx, sl, h1, h2, r, h3, h4⟩ := hb y q
    exact ⟨ρx, sl, h1, h2, _, ep_nil, r, h3, h4⟩
/-- [elt for tg in iter], pure -/
theorem ee_lcP {α β : Type} {scope : Scope} (own : List (Str × Nat)) (emb : α → D) (emb' : β → D) (xs : List α) (m : α → Option β) {G : MS → Prop} {ys : List β}
    (hN : S.N.Nodup) (ok : BlkOk S.N S.sc scope own) (hfs : ∀ env x, foldedSetIterable iter env x = pure x) (hi : IT S tg iter ρ ms (xs.map emb) ms1 G) (hG : ∀ ex, G (ms1 ++ ex)) (hn0 : S.n0 ≤ ms1.length)
    (hb : ∀ x ∈ xs, ∀ y ex, m x = some y → LcP (S.blk scope) tg elt (wipeE ρ (own.map (·.2))) (own.map (·.2)) (ms1 ++ ex) emb emb' x y)
    (hf : mapO m xs = some ys) (hz : xs.length ≤ sizeLine) : EE S (.ListComp elt [⟨tg, iter, [], 0⟩] scope pos) ρ ms (.new (ys.map emb')) ms1 :=
  ee_lc (τ := Unit) (s0 := ()) (s1 := ()) own emb emb' xs (fun x s => (m x).map fun y => (some y, s)) (fun _ => ms1) ms1.length hN ok hfs hi (fun _ ex => hG ex) (fun _ => rfl)
    (fun x hx s o s' ex h => turn_P (fun y => hb x hx y ex) h) (mapO_fmL hf) hz hn0
theorem ss_lcP {α β : Type} {scope : Scope} {epos : Pos} (i : Nat) (own : List (Str × Nat)) (emb : α → D) (emb' : β → D) (xs : List α) (m : α → Option β) {G : MS → Prop} {ys : List β}
    (hN : S.N.Nodup) (hx : S.N[i]? = some x) (hxl : S.sc.names.lookup x = some .local) (hsw : ∀ X, InS S X → swapsWith (.ListComp elt [⟨tg, iter, [], 0⟩] scope epos) (some (.Name x px)) pos.line X.env = pure true)
    (ok : BlkOk S.N S.sc scope own) (hfs : ∀ env x, foldedSetIterable iter env x = pure x) (hi : IT S tg iter ρ ms (xs.map emb) ms1 G) (hG : ∀ ex, G (ms1 ++ ex)) (hn0 : S.n0 ≤ ms1.length)
    (hb : ∀ x ∈ xs, ∀ y ex, m x = some y → LcP (S.blk scope) tg elt (wipeE ρ (own.map (·.2))) (own.map (·.2)) (ms1 ++ ex) emb emb' x y)
    (hf : mapO m xs = some ys) (hz : xs.length ≤ sizeLine) : SS S (.Assign [.Name x px] (.ListComp elt [⟨tg, iter, [], 0⟩] scope epos) pos) ρ ms (.nx (ρ.set i (.dat (.list (ys.map emb')))) ms1) :=
  ss_setLc (τ := Unit) (s0 := ()) (s1 := ()) i own emb emb' xs (fun x s => (m x).map fun y => (some y, s)) (fun _ => ms1) ms1.length hN hx hxl hsw ok hfs hi (fun _ ex => hG ex) (fun _ => rfl)
    (fun x hx s o s' ex h => turn_P (fun y => hb x hx y ex) h) (mapO_fmL hf) hz hn0
/-- what a turn with a test asks -/
def LcF {α β : Type} (S : Sx) (tg elt c : Expr) (ρ : Env') (vs : List Nat) (ms : MS) (emb : α → D) (emb' : β → D) (x : α) (o : Option β) : Prop :=
  ∃ (ρx : Env') (sl : List Nat), (∀ i ∈ sl, i ∈ vs) ∧ EG S tg (emb x) ρ ρx sl ∧ ∃ t, ET S c ρx ms t ms ∧ t = o.isSome ∧ ∀ y, o = some y → ∃ r, EE S elt ρx ms r ms ∧ frz r = some (emb' y)
theorem turn_F {α β : Type} {S : Sx} {ρ : Env'} {vs : List Nat} {emb : α → D} {emb' : β → D} {m : α → Option (Option β)} {ms : MS} {x : α} {s s' : Unit} {o : Option β} {ex : MS}
    (hb : ∀ o, m x = some o → LcF S tg elt c ρ vs (ms ++ ex) emb emb' x o) (h : ((m x).map fun y => (y, s)) = some (o, s')) : LcTurn S tg elt [c] ρ vs emb emb' (fun _ : Unit => ms) x s o s' ex := by
  cases q : m x with
  | none => rw [q] at h; cases h
  | some y =>
    rw [q] at h
    cases (someS h : _ = (o, s'))
    obtain ⟨ρx, sl, h1, h2, t, h3, h4, h5⟩ := hb _ q
    refine ⟨ρx, sl, h1, h2, _, h4 ▸ ep_one h3, ?_⟩
    cases o with
    | none => rfl
    | some y => exact h5 y rfl
theorem ee_lcF {α β : Type} {scope : Scope} (own : List (Str × Nat)) (emb : α → D) (emb' : β → D) (xs : List α) (m : α → Option (Option β)) {G : MS → Prop} {ys : List β}
    (hN : S.N.Nodup) (ok : BlkOk S.N S.sc scope own) (hfs : ∀ env x, foldedSetIterable iter env x = pure x) (hi : IT S tg iter ρ ms (xs.map emb) ms1 G) (hG : ∀ ex, G (ms1 ++ ex)) (hn0 : S.n0 ≤ ms1.length)
    (hb : ∀ x ∈ xs, ∀ o ex, m x = some o → LcF (S.blk scope) tg elt c (wipeE ρ (own.map (·.2))) (own.map (·.2)) (ms1 ++ ex) emb emb' x o)
    (hf : fmO m xs = some ys) (hz : xs.length ≤ sizeLine) : EE S (.ListComp elt [⟨tg, iter, [c], 0⟩] scope pos) ρ ms (.new (ys.map emb')) ms1 :=
  ee_lc (τ := Unit) (s0 := ()) (s1 := ()) own emb emb' xs (fun x s => (m x).map fun y => (y, s)) (fun _ => ms1) ms1.length hN ok hfs hi (fun _ ex => hG ex) (fun _ => rfl)
    (fun x hx s o s' ex h => turn_F (fun y => hb x hx y ex) h) (fmO_fmL hf) hz hn0

/-! ### dice: a list of two numbers that is handed down and changed -/
abbrev Dice := Int × Int
def eDice (d : Dice) : List D := [.int d.1, .int d.2]
def MD (mc : MS) (k : Nat) (d : Dice) : MS := mc.set k (eDice d)
theorem MD_len {k : Nat} {d : Dice} : (MD mc k d).length = mc.length := by unfold MD; simp
theorem MD_get {k : Nat} {d : Dice} (h : k < mc.length) : (MD mc k d)[k]? = some (eDice d) := by unfold MD; exact List.getElem?_set_self h
theorem MD_set {k : Nat} {d d' : Dice} : (MD mc k d).set k (eDice d') = MD mc k d' := by unfold MD; rw [List.set_set]
theorem MD_app {k : Nat} {d : Dice} (h : k < mc.length) : MD (mc ++ tl) k d = MD mc k d ++ tl := by unfold MD; rw [List.set_append_left _ _ h]
/-- an own def that is given dice first -/
def RelD (n : Nat) (A : List Rs → Dice → Rs → Dice → Prop) : Rel := fun rs ms r ms' => ∃ mc k d d' tl args, k < mc.length ∧ rs = .mu k :: args ∧ args.length + 1 = n ∧ ms = MD mc k d ++ tl ∧ ms' = MD mc k d' ++ tl ∧ A args d r d'
theorem ee_callD {k' n k : Nat} {A : List Rs → Dice → Rs → Dice → Prop} {d0 d d' : Dice} (hkm : k < mc.length) (Kf : KnS S k' x (RelD n A)) (hk : k' ≤ S.k) (hg : S.sc.names.lookup x = some .globalImplicit) (hn : rs.length + 1 = n)
    (ha : EA S (e :: es) ρ (MD mc k d0 ++ tl) (.mu k :: rs) (MD mc k d ++ tl)) (hA : A (rs.map arg) d r d') (ht : ∀ j, Rs.mu j ∈ (Rs.mu k :: rs.map arg) → S.n0 ≤ j ∨ S.tch j = true)
    (hd : (x == ("__debug__" : Str)) = false := by decide) (he : ∀ env, starEach (e :: es) env = (false, eval e env) :: starEach es env := by intro _; rfl) (hpl : ∀ env, (backTo pos (starEach es env)).any (·.1) = false := by intro _; rfl) :
    EE S (.Call (.Name x px) (e :: es) [] pos) ρ (MD mc k d0 ++ tl) r (MD mc k d' ++ tl) := by
  refine ee_call Kf hk hg ha ?_ ht hd he hpl
  exact ⟨mc, k, d, d', tl, rs.map arg, hkm, by simp [arg], by simpa using hn, rfl, rfl, hA⟩
theorem relD_len {n : Nat} {A : List Rs → Dice → Rs → Dice → Prop} : ∀ rs ms r ms', RelD n A rs ms r ms' → rs.length = n ∧ ms'.length = ms.length := by
  intro rs ms r ms' ⟨mc, k, d, d', tl, args, _, h1, h2, h3, h4, _⟩
  subst h1 h3 h4
  exact ⟨by simpa using h2, by simp [MD_len]⟩
theorem tch0 {k : Nat} : ((Rs.mu k :: rs).any fun r => match r with | .mu i => i == k | _ => false) = true := by simp
/-- lists of one's own: their places -/
theorem lkP {l : MS} {j : Nat} : (ms ++ l)[ms.length + j]? = l[j]? := by rw [List.getElem?_append_right (by omega)]; congr 1; omega
theorem lkD {l : MS} {k j : Nat} {d : Dice} : (MD mc k d ++ (tl ++ l))[mc.length + tl.length + j]? = l[j]? := by
  rw [List.getElem?_append_right (by rw [MD_len]; omega), List.getElem?_append_right (by rw [MD_len]; omega)]
  congr 1
  rw [MD_len]; omega
theorem stP {l : MS} {v : List D} {j : Nat} : (ms ++ l).set (ms.length + j) v = ms ++ l.set j v := by
  rw [List.set_append_right _ _ (by omega)]; congr 2; omega
theorem stD {l : MS} {v : List D} {k j : Nat} {d : Dice} : (MD mc k d ++ (tl ++ l)).set (mc.length + tl.length + j) v = MD mc k d ++ (tl ++ l.set j v) := by
  rw [List.set_append_right _ _ (by rw [MD_len]; omega), List.set_append_right _ _ (by rw [MD_len]; omega)]
  congr 3
  rw [MD_len]; omega
theorem ee_ms (h : EE S e ρ ms r ms1) (q : ms1 = ms2) : EE S e ρ ms r ms2 := q ▸ h
theorem ss_ms (h : SS S st ρ ms (.nx ρ1 ms1)) (q : ms1 = ms2) : SS S st ρ ms (.nx ρ1 ms2) := q ▸ h
theorem MD_put {k : Nat} {d d' : Dice} (h : k < mc.length) : (MD mc k d ++ tl).set k (eDice d') = MD mc k d' ++ tl := by
  rw [List.set_append_left _ _ (by rw [MD_len]; exact h), MD_set]
theorem MD_at {k : Nat} {d : Dice} (h : k < mc.length) : (MD mc k d ++ tl)[k]? = some (eDice d) := by
  rw [List.getElem?_append_left (by rw [MD_len]; exact h), MD_get h]
/-- [elt for tg in iter] with dice -/
def LcS {α β : Type} (S : Sx) (tg elt : Expr) (ρ : Env') (vs : List Nat) (mc : MS) (k : Nat) (tl : MS) (emb : α → D) (emb' : β → D) (x : α) (d : Dice) (y : β) (d' : Dice) : Prop :=
  ∃ (ρx : Env') (sl : List Nat), (∀ i ∈ sl, i ∈ vs) ∧ EG S tg (emb x) ρ ρx sl ∧ ∃ r, EE S elt ρx (MD mc k d ++ tl) r (MD mc k d' ++ tl) ∧ frz r = some (emb' y)
theorem turn_S {α β : Type} {S : Sx} {ρ : Env'} {vs : List Nat} {k : Nat} {emb : α → D} {emb' : β → D} {m : α → Dice → Option (β × Dice)} {x : α} {s s' : Dice} {o : Option β} {ex : MS}
    (hb : ∀ y, m x s = some y → LcS S tg elt ρ vs mc k (tl ++ ex) emb emb' x s y.1 y.2) (h : ((m x s).map fun y => (some y.1, y.2)) = some (o, s')) : LcTurn S tg elt [] ρ vs emb emb' (fun d : Dice => MD mc k d ++ tl) x s o s' ex := by
  cases q : m x s with
  | none => rw [q] at h; cases h
  | some y =>
    rw [q] at h
    cases (someS h : _ = (o, s'))
    obtain ⟨ρx, sl, h1, h2, r, h3, h4⟩ := hb y q
    exact ⟨ρx, sl, h1, h2, _, ep_nil, r, by rw [List.append_assoc, List.append_assoc]; exact h3, h4⟩
theorem ee_lcS {α β : Type} {scope : Scope} {k : Nat} (own : List (Str × Nat)) (emb : α → D) (emb' : β → D) (xs : List α) (m : α → Dice → Option (β × Dice)) {G : MS → Prop} {d0 : Dice} {q : List β × Dice}
    (hN : S.N.Nodup) (ok : BlkOk S.N S.sc scope own) (hfs : ∀ env x, foldedSetIterable iter env x = pure x) (hi : IT S tg iter ρ ms (xs.map emb) (MD mc k d0 ++ tl) G) (hG : ∀ s ex, G ((MD mc k s ++ tl) ++ ex)) (hn0 : S.n0 ≤ mc.length + tl.length)
    (hb : ∀ x ∈ xs, ∀ d y ex, m x d = some y → LcS (S.blk scope) tg elt (wipeE ρ (own.map (·.2))) (own.map (·.2)) mc k (tl ++ ex) emb emb' x d y.1 y.2)
    (hf : mapS m xs d0 = some q) (hz : xs.length ≤ sizeLine) : EE S (.ListComp elt [⟨tg, iter, [], 0⟩] scope pos) ρ ms (.new (q.1.map emb')) (MD mc k q.2 ++ tl) :=
  ee_lc (τ := Dice) (s0 := d0) (s1 := q.2) (ys := q.1) own emb emb' xs (fun x s => (m x s).map fun y => (some y.1, y.2)) (fun d => MD mc k d ++ tl) (mc.length + tl.length) hN ok hfs hi (fun s ex => hG s ex) (fun _ => by rw [List.length_append, MD_len])
    (fun x hx s o s' ex h => turn_S (fun y => hb x hx s y ex) h) (mapS_fmL hf) hz hn0
end
end Abs
namespace Abs
open PySem PySem.Spec PyProof.Rows L2
/-! ### enumerate(tuple); zip(list, tuple), zip(tuple, list) -/
set_option maxHeartbeats 1000000 in
theorem meets_enumB1 {v : Value} {o : Obj} {H : Heap → Prop} (B : Begins v o H) :
    Meets (Builtin.«enumerate.__new__» ⟨[.type "enumerate", v], []⟩) (fun _ R s => H s.heap ∧
      R (.ok (.ret (.ref (s.heap.push o).objs.size))) { s with heap := (s.heap.push o).push { cls := .type "enumerate", data := .fields #[.none, .bool false, .ref s.heap.objs.size, rawInt 0, .none, .none] } }) :=
  .of_wp fun prog w A R s h => by
    obtain ⟨hp, g, d, tk, os⟩ := s; obtain ⟨h1, h⟩ := h
    have hsub := sub_enumerate
    have q1 : ∀ {A' : Around} {E : Value → Shared → Prop} {Q : Value → Shared → Prop}, Q (.ref hp.objs.size) ⟨hp.push o, g, d, tk, os⟩ → wpAny (model prog w) A' (pyIter v) Q E ⟨hp, g, d, tk, os⟩ :=
      fun q => B.iter prog w _ _ ⟨hp, g, d, tk, os⟩ _ h1 q
    wp_walk using q1
    refine wpAny_stack_any fun st => wpAny_pure ?_
    split
    · rename_i c _ _ _ _ _
      cases (c == Value.type "enumerate")
      · wp_walk using q1
        exact ⟨_, rfl, h⟩
      · wp_walk using q1
        exact ⟨_, rfl, h⟩
    · wp_walk using q1
      exact ⟨_, rfl, h⟩
theorem enum_begins1 {prog : Program} {w : World} {A : Around} {E : Value → Shared → Prop} {s : Shared} {v : Value} {o : Obj} {H : Heap → Prop} {Q : Value → Shared → Prop} (B : Begins v o H) (h1 : H s.heap)
    (hfit : True)
    (h : ∀ h', IsEnum h' (s.heap.objs.size + 1) s.heap.objs.size 0 .none → h'.get? s.heap.objs.size = some o → h'.objs.size = s.heap.objs.size + 2 →
      (∀ b o, s.heap.get? b = some o → h'.get? b = some o) → Q (.ref (s.heap.objs.size + 1)) { s with heap := h' }) :
    wpAny (model prog w) A (call (.type "enumerate") [v]) Q E s := by
  refine callType_new F.called_enumerate (by decide) (F.typeCall_enumerate_1 _) (F.newCall_enumerate_1 _) (fun obj => F.args_object_init_2 obj _) F.entry_enumerate_new
    (meets_enumB1 B) ⟨h1, ?_⟩
  have hz : (s.heap.push o).objs.size = s.heap.objs.size + 1 := Heap.size_push ..
  show _ ∧ _
  rw [hz]
  have he : IsEnum ((s.heap.push o).push { cls := .type "enumerate", data := .fields #[.none, .bool false, .ref s.heap.objs.size, rawInt 0, .none, .none] }) (s.heap.objs.size + 1) s.heap.objs.size 0 .none := by
    have := Heap.get?_push_size (s.heap.push o) (o := { cls := .type "enumerate", data := .fields #[.none, .bool false, .ref s.heap.objs.size, rawInt 0, .none, .none] }) rfl
    rw [hz] at this; exact this
  refine ⟨⟨_, he, rfl⟩, h _ he (Heap.get?_push_of_some _ (Heap.get?_push_size _ B.free)) (by rw [Heap.size_push, hz]) fun b o x => Heap.get?_push_of_some _ (Heap.get?_push_of_some _ x)⟩
def IteT (K : PySem.W.Frag) (a : Addr) : It :=
  ⟨fun i H => ∃ (xs : List V) (x : V), SqT K H a xs ∧ xs[i]? = some x, fun i H v H' => ∃ T x, v = .ref T ∧ H T = none ∧ H' = upd H T (.tup [.int (i : Nat), x]) ∧ ∀ xs, SqT K H a xs → xs[i]? = some x, fun i H => ∃ xs : List V, SqT K H a xs ∧ xs.length = i⟩
theorem turn_enumT {P : Program} {w : World} {K : PySem.W.Frag} {elts : List Expr} {kk : Nat} {tpos : Pos} (a e it : Addr) (hea : e ≠ a) (hia : it ≠ a) :
    Turn P w K (.Tuple elts kk tpos) (IteT K a) [e, it] e (fun i h => (∃ old, IsEnum h e it ((i : Nat) : Int) old) ∧ h.IsTupleIter it a i ∧ e ≠ it) where
  mem := by simp
  obj := fun i h st b hb => by
    obtain ⟨⟨old, he⟩, ⟨o, ho, hc, hd⟩, _⟩ := st
    have e' : b = e ∨ b = it := by simpa using hb
    rcases e' with z | z
    · rw [z]; exact ⟨_, he, fun v q => nomatch q⟩
    · rw [z]; exact ⟨o, ho, fun v q => by rw [hd] at q; cases q⟩
  keep := fun i h h' st k => let ⟨⟨old, he⟩, hi, hne⟩ := st; ⟨⟨old, k e (by simp) _ he⟩, hi.at fun o q => k it (by simp) o q, hne⟩
  item := by
    intro X hP hw hK hc i pins s σ H E I hf st hg
    subst hP hw hK
    obtain ⟨⟨old, he⟩, hit, hne⟩ := st
    obtain ⟨xs, x, hq, hx⟩ := hg
    obtain ⟨its, rv, p, hz⟩ := I.tuple hq
    obtain ⟨u, hu, ru⟩ := rv.get hx
    have hel : e < s.heap.objs.size := Heap.lt_size he
    have hil : it < s.heap.objs.size := by obtain ⟨_, q, _⟩ := hit; exact Heap.lt_size q
    have hlt : i < its.toArray.size := by
      have := (List.getElem?_eq_some_iff.mp hu).1
      simpa using this
    refine wpAny_pyNext_enum_itemD (Draws.tuple (prog := X.prog) (w := X.w) (A := X.A.in1) (show X.A.in1.handled = none from I.ok.hd hc) it a (Ne.symm hia) its.toArray) he ⟨hit, (show s.heap.IsTuple a its.toArray from p)⟩ hlt hne (fun z => ?_) fun y h' tk hP ho hst' hT hsz hk => ?_
    · have z : e = it ∨ e = a := by simpa using z
      exact z.elim hne hea
    have hy : y = u := by
      rw [show its.toArray[i]? = some u by simpa using hu] at hP
      exact (Option.some.inj hP).symm
    subst hy
    refine ⟨_, rfl, wpAny_letOwnedTupleGo_enum (s := { s with heap := h', toks := tk + 1 }) ho fun h'' he' sb => ?_⟩
    have hT2 : h''.get? s.heap.objs.size = some { cls := .type "tuple", data := .seq #[.int i tk, y] } := (sb.2 _ (Nat.ne_of_gt hel)).trans hT
    have new : ObjOk X.prog X.w (upd H s.heap.objs.size (.tup [.int (i : Nat), x])) h'' s.heap.objs.size (.tup [.int (i : Nat), x]) :=
      ⟨by show 2 ≤ sizeLine; decide, [.int i tk, y], .cons ⟨_, rfl⟩ (.cons ru .nil), ⟨_, hT2, rfl, _, rfl⟩⟩
    have I1 : Inv X pins σ (upd H s.heap.objs.size (.tup [.int (i : Nat), x])) { s with heap := h'', toks := tk + 1 } :=
      I.turnedNew (ch := [e, it]) (fun b ob hb q => (sb.2 b (fun z => hb (by simp [z]))).trans (hk b ob (fun z => hb (by simp [z])) (fun z => hb (by simp [z])) q)) hf (Nat.le_refl _) new
    refine ⟨.ref s.heap.objs.size, _, I1, rfl, ⟨_, x, rfl, I.hok.fresh (Nat.le_refl _), rfl, fun ys hy => by rw [I.tuple_inj hy hq]; exact hx⟩, ⟨⟨y, ?_⟩, hst'.1.at fun o q => (sb.2 it (Ne.symm hne)).trans q, hne⟩, fun b hb => ?_⟩
    · have e1 : ((i + 1 : Nat) : Int) = (i : Int) + 1 := by omega
      rw [e1]; exact he'
    · have hb' : b < s.heap.objs.size := by
        have e' : b = e ∨ b = it := by simpa using hb
        rcases e' with z | z
        · rw [z]; exact hel
        · rw [z]; exact hil
      rw [upd_ne (Nat.ne_of_lt hb')]
      exact (hf b hb).1
  done := by
    intro X hP hw hK hc i pins s σ H E I hf st hg
    subst hP hw hK
    obtain ⟨⟨old, he⟩, hit, hne⟩ := st
    obtain ⟨xs, hq, hx⟩ := hg
    obtain ⟨its, rv, p, hz⟩ := I.tuple hq
    have hl := rv.length
    have hi : i = its.toArray.size := by simp; omega
    refine wpAny_pyNext_enum_endD (Draws.tuple (prog := X.prog) (w := X.w) (A := X.A.in1) (show X.A.in1.handled = none from I.ok.hd hc) it a (Ne.symm hia) its.toArray) he ⟨by rw [← hi]; exact hit, (show s.heap.IsTuple a its.toArray from p)⟩ fun h' eb => ⟨rfl, ?_⟩
    obtain ⟨f0, f1, f2, f3, f4, f5⟩ := hf it (by simp)
    exact I.turned (t' := s.toks) (fun b o hb q => eb b o hb q) f0 f1 f3 f4 f5
  self := fun A i s Q E st h => let ⟨⟨_, he⟩, _⟩ := st; wpAny_pyIter_enum he h
def iEnumT (K : PySem.W.Frag) (ta : TA) : TI := fun σ H R => ta σ H fun vs H1 => ∃ a xs, vs = [.ref a] ∧ SqT K H1 a xs ∧ R (IteT K a) H1
theorem pi_enumT {X : Cx} {e : Expr} {ta : TA} {p pos tpos : Pos} {elts : List Expr} {kk : Nat} (hg : Gl X "enumerate") (hm : X.mg "enumerate" = none) (ha : PA X [e] ta) (hs : starEach [e] X.env = [(false, eval e X.env)] := by rfl) :
    PI X (.Tuple elts kk tpos) (.Call (.Name "enumerate" p) [e] [] pos) (iEnumT X.K ta) := by
  refine ⟨fun pins s σ H R I h => ?_⟩
  refine Call_ (ld_blt I hg hm boot_enumerate (PyProof.Rows.callWith_type1 (thn (ha.run pos pins s σ H _ I h) fun us s1 ⟨vs, H1, I1, r1, q1⟩ => ?_) hs rfl))
  obtain ⟨a, xs, ex, hq, q⟩ := q1
  subst ex
  cases r1 with
  | cons r rr =>
    cases rr
    cases r
    obtain ⟨its, rv, p', hz⟩ := I1.tuple hq
    have hal : a < s1.heap.objs.size := by
      obtain ⟨o, ho, _⟩ := id p'
      exact Heap.lt_size ho
    refine enum_begins1 (begins_tuple a its.toArray) (show s1.heap.IsTuple a its.toArray from p') trivial fun h' he hit hsz hk => wpAny_pyIter_enum he ?_
    have I2 : Inv X pins σ H1 { s1 with heap := h' } := I1.kept (t' := s1.toks) hk
    refine ⟨s1.heap.objs.size + 1, [s1.heap.objs.size + 1, s1.heap.objs.size], _, _, H1, rfl, I2, turn_enumT a (s1.heap.objs.size + 1) s1.heap.objs.size (Nat.ne_of_gt (Nat.lt_succ_of_lt hal)) (Nat.ne_of_gt hal), ⟨⟨.none, he⟩, ⟨_, hit, rfl, rfl⟩, Nat.succ_ne_self _⟩, fun b hb => ?_, q⟩
    have e' : b = s1.heap.objs.size + 1 ∨ b = s1.heap.objs.size := by simpa using hb
    have hle : s1.heap.objs.size ≤ b := by
      rcases e' with z | z
      · rw [z]; exact Nat.le_add_right _ _
      · rw [z]; exact Nat.le_refl _
    exact I1.fpOk hle (I1.hok.fresh hle)
/-- zip of a list and a tuple -/
def ItzM (K : PySem.W.Frag) (a b : Addr) : It :=
  ⟨fun i H => ∃ (xs ys : List V) (x y : V), SqL K H a xs ∧ SqT K H b ys ∧ xs[i]? = some x ∧ ys[i]? = some y,
    fun i H v H' => ∃ T x y, v = .ref T ∧ H T = none ∧ H' = upd H T (.tup [x, y]) ∧ (∀ xs, SqL K H a xs → xs[i]? = some x) ∧ ∀ ys, SqT K H b ys → ys[i]? = some y,
    fun i H => ∃ xs ys : List V, SqL K H a xs ∧ SqT K H b ys ∧ i ≤ xs.length ∧ i ≤ ys.length ∧ (i = xs.length ∨ i = ys.length)⟩
theorem sep_of {a b z TI TO i1 i2 : Addr} (D : ZipApart z TI TO i1 i2 a b) : ZipSep2 z TI TO i1 i2 [i1, a] [i2, b] := by
  refine ⟨D.TIz, D.TOz, D.TITO, D.TIi1, by simp, ?_, ?_, D.TIi2, by simp, ?_, ?_, ?_, ?_⟩
  · simp [Ne.symm D.i1z, Ne.symm D.l1z]
  · simp [D.TOi1, Ne.symm D.l1TO]
  · simp [Ne.symm D.i2z, Ne.symm D.l2z]
  · simp [D.TOi2, Ne.symm D.l2TO]
  · simp [D.i12, Ne.symm D.l2i1]
  · simp [Ne.symm D.i12, Ne.symm D.l1i2]
theorem turn_zipM {P : Program} {w : World} {K : PySem.W.Frag} {elts : List Expr} {kk : Nat} {tpos : Pos} {a b z TI TO i1 i2 : Addr} (D : ZipApart z TI TO i1 i2 a b) :
    Turn P w K (.Tuple elts kk tpos) (ItzM K a b) [z, TI, TO, i1, i2] z (fun i h => IsZip h z TI TO .none ∧ IsPair h TI (.ref i1) (.ref i2) ∧ (∃ x y, IsPair h TO x y) ∧ h.IsListIter i1 a i ∧ h.IsTupleIter i2 b i) where
  mem := by simp
  obj := fun i h st c hc => by
    obtain ⟨hz, hTI, ⟨x, y, hTO⟩, ⟨o1, e1, _, d1⟩, ⟨o2, e2, _, d2⟩⟩ := st
    have e' : c = z ∨ c = TI ∨ c = TO ∨ c = i1 ∨ c = i2 := by simpa using hc
    rcases e' with q | q | q | q | q
    · rw [q]; exact ⟨_, hz, fun v q => nomatch q⟩
    · rw [q]; exact ⟨_, hTI, fun v q => nomatch q⟩
    · rw [q]; exact ⟨_, hTO, fun v q => nomatch q⟩
    · rw [q]; exact ⟨o1, e1, fun v q => by rw [d1] at q; cases q⟩
    · rw [q]; exact ⟨o2, e2, fun v q => by rw [d2] at q; cases q⟩
  keep := fun i h h' st k => by
    obtain ⟨hz, hTI, ⟨x, y, hTO⟩, h1, h2⟩ := st
    exact ⟨k z (by simp) _ hz, k TI (by simp) _ hTI, ⟨x, y, k TO (by simp) _ hTO⟩, h1.at fun o q => k i1 (by simp) o q, h2.at fun o q => k i2 (by simp) o q⟩
  item := by
    intro X hP hw hK hc i pins s σ H E I hf st hg
    subst hP hw hK
    obtain ⟨hz, hTI, ⟨x0, y0, hTO⟩, h1, h2⟩ := st
    obtain ⟨xs, ys, x, y, hqx, hqy, hx, hy⟩ := hg
    obtain ⟨its, rv, p, _⟩ := I.list hqx
    obtain ⟨its2, rv2, p2, _⟩ := I.tuple hqy
    obtain ⟨u, hu, ru⟩ := rv.get hx
    obtain ⟨u2, hu2, ru2⟩ := rv2.get hy
    have hzl : z < s.heap.objs.size := Heap.lt_size hz
    have lt1 : i < its.toArray.size := by
      have := (List.getElem?_eq_some_iff.mp hu).1
      simpa using this
    have lt2 : i < its2.toArray.size := by
      have := (List.getElem?_eq_some_iff.mp hu2).1
      simpa using this
    have hh : X.A.in1.handled = none := I.ok.hd hc
    refine wpAny_pyNext_zipD2_item (sep_of D) (Draws.list (prog := X.prog) (w := X.w) (A := X.A.in1) hh i1 a D.l1i1 its.toArray) (Draws.tuple (prog := X.prog) (w := X.w) (A := X.A.in1) hh i2 b D.l2i2 its2.toArray)
      hz hTI hTO ⟨h1, p.isList⟩ ⟨h2, (show s.heap.IsTuple b its2.toArray from p2)⟩ lt1 lt2 fun v1 v2 h' tk hP1 hP2 z' TO' h1' h2' hT hsz hk => ?_
    have e1 : v1 = u := by
      rw [show its.toArray[i]? = some u by simpa using hu] at hP1
      exact (Option.some.inj hP1).symm
    have e2 : v2 = u2 := by
      rw [show its2.toArray[i]? = some u2 by simpa using hu2] at hP2
      exact (Option.some.inj hP2).symm
    subst e1 e2
    refine ⟨_, rfl, wpAny_letOwnedTupleGo_zip (s := { s with heap := h', toks := tk }) z' fun h'' z'' sb => ?_⟩
    have hT2 : h''.get? s.heap.objs.size = some { cls := .type "tuple", data := .seq #[v1, v2] } := (sb.2 _ (Nat.ne_of_gt hzl)).trans hT
    have new : ObjOk X.prog X.w (upd H s.heap.objs.size (.tup [x, y])) h'' s.heap.objs.size (.tup [x, y]) :=
      ⟨by show 2 ≤ sizeLine; decide, [v1, v2], .cons ru (.cons ru2 .nil), ⟨_, hT2, rfl, _, rfl⟩⟩
    have I1 : Inv X pins σ (upd H s.heap.objs.size (.tup [x, y])) { s with heap := h'', toks := tk } :=
      I.turnedNew (t' := tk) (ch := [z, TI, TO, i1, i2]) (fun c o hb q => (sb.2 c (fun q' => hb (by simp [q']))).trans (hk c o (fun q' => hb (by simp [q'])) (fun q' => hb (by simp [q'])) (fun q' => hb (by simp [q'])) (fun q' => hb (by simp [q'])) q)) hf (Nat.le_refl _) new
    refine ⟨.ref s.heap.objs.size, _, I1, rfl, ⟨_, x, y, rfl, I.hok.fresh (Nat.le_refl _), rfl, fun l hl => by rw [I.list_inj hl hqx]; exact hx, fun l hl => by rw [I.tuple_inj hl hqy]; exact hy⟩, ⟨z'', ?_, ⟨v1, v2, ?_⟩, ?_, ?_⟩, fun c hcm => ?_⟩
    · exact (sb.2 _ D.TIz).trans (hk _ _ D.TIz D.TITO D.TIi1 D.TIi2 hTI)
    · exact (sb.2 _ D.TOz).trans TO'
    · exact h1'.1.at fun o q => (sb.2 _ D.i1z).trans q
    · exact h2'.1.at fun o q => (sb.2 _ D.i2z).trans q
    · have hlt : c < s.heap.objs.size := by
        have e' : c = z ∨ c = TI ∨ c = TO ∨ c = i1 ∨ c = i2 := by simpa using hcm
        rcases e' with q | q | q | q | q
        · rw [q]; exact hzl
        · rw [q]; exact Heap.lt_size hTI
        · rw [q]; exact Heap.lt_size hTO
        · rw [q]; obtain ⟨_, e1, _⟩ := h1; exact Heap.lt_size e1
        · rw [q]; obtain ⟨_, e2, _⟩ := h2; exact Heap.lt_size e2
      rw [upd_ne (Nat.ne_of_lt hlt)]
      exact (hf c hcm).1
  done := by
    intro X hP hw hK hc i pins s σ H E I hf st hg
    subst hP hw hK
    obtain ⟨hz, hTI, ⟨x0, y0, hTO⟩, h1, h2⟩ := st
    obtain ⟨xs, ys, hqx, hqy, hl1, hl2, hend⟩ := hg
    obtain ⟨its, rv, p, _⟩ := I.list hqx
    obtain ⟨its2, rv2, p2, _⟩ := I.tuple hqy
    have l1 := rv.length
    have l2 := rv2.length
    have hh : X.A.in1.handled = none := I.ok.hd hc
    exact wpAny_pyNext_zipD2_end (sep_of D) (Draws.list (prog := X.prog) (w := X.w) (A := X.A.in1) hh i1 a D.l1i1 its.toArray) (Draws.tuple (prog := X.prog) (w := X.w) (A := X.A.in1) hh i2 b D.l2i2 its2.toArray)
      hz hTI hTO ⟨h1, p.isList⟩ ⟨h2, (show s.heap.IsTuple b its2.toArray from p2)⟩ (by simp; omega) (by simp; omega) (by simp; omega) fun h' tk hk => ⟨rfl, I.turnedL (t' := tk) (ch := [z, TI, TO, i1, i2]) (fun c o hb q =>
      hk c o (fun q' => hb (by simp [q'])) (fun q' => hb (by simp [q'])) (fun q' => hb (by simp [q'])) (fun q' => hb (by simp [q'])) q) hf⟩
  self := fun A i s Q E st h => wpAny_pyIter_zip st.1 h
def iZipM (K : PySem.W.Frag) (ta : TA) : TI := fun σ H R => ta σ H fun vs H1 => ∃ a b xs ys, vs = [.ref a, .ref b] ∧ SqL K H1 a xs ∧ SqT K H1 b ys ∧ R (ItzM K a b) H1
theorem pi_zipM {X : Cx} {e e2 : Expr} {ta : TA} {p pos tpos : Pos} {elts : List Expr} {kk : Nat} (hg : Gl X "zip") (hm : X.mg "zip" = none) (ha : PA X [e, e2] ta)
    (hs : starEach [e, e2] X.env = (false, eval e X.env) :: starEach [e2] X.env := by rfl) (hpl : (backTo pos (starEach [e2] X.env)).any (·.1) = false := by rfl) :
    PI X (.Tuple elts kk tpos) (.Call (.Name "zip" p) [e, e2] [] pos) (iZipM X.K ta) := by
  refine ⟨fun pins s σ H R I h => ?_⟩
  refine Call_ (ld_blt I hg hm PyProof.Rows.boot_zip (PyProof.Rows.callWith_type1 (thn (ha.run pos pins s σ H _ I h) fun us s1 ⟨vs, H1, I1, r1, q1⟩ => ?_) hs hpl))
  obtain ⟨a, b, xs, ys, ex, hqx, hqy, q⟩ := q1
  subst ex
  cases r1 with
  | cons r rr =>
    cases rr with
    | cons r' rr =>
      cases rr
      cases r
      cases r'
      obtain ⟨its, rv, p1, _⟩ := I1.list hqx
      obtain ⟨its2, rv2, p2, _⟩ := I1.tuple hqy
      obtain ⟨o2, ho2, _⟩ := id p2
      have la : a < s1.heap.objs.size := p1.lt
      have lb : b < s1.heap.objs.size := Heap.lt_size ho2
      refine zip_begins2 (begins_list a its.toArray) (begins_tuple b its2.toArray) p1.isList (show s1.heap.IsTuple b its2.toArray from p2) fun h' hz hTI hTO h1 h2 hsz hk => wpAny_pyIter_zip hz ?_
      have I2 : Inv X pins σ H1 { s1 with heap := h' } := I1.kept (t' := s1.toks) hk
      refine ⟨s1.heap.objs.size + 4, [s1.heap.objs.size + 4, s1.heap.objs.size + 2, s1.heap.objs.size + 3, s1.heap.objs.size, s1.heap.objs.size + 1], _, _, H1, rfl, I2, turn_zipM (PySem.W.ktu_apart s1.heap.objs.size a b la lb), ⟨hz, hTI, ⟨_, _, hTO⟩, ⟨_, h1, rfl, rfl⟩, ⟨_, h2, rfl, rfl⟩⟩, fun c hcm => ?_, q⟩
      have e' : c = s1.heap.objs.size + 4 ∨ c = s1.heap.objs.size + 2 ∨ c = s1.heap.objs.size + 3 ∨ c = s1.heap.objs.size ∨ c = s1.heap.objs.size + 1 := by simpa using hcm
      have hle : s1.heap.objs.size ≤ c := by
        rcases e' with z | z | z | z | z
        · rw [z]; exact Nat.le_add_right _ _
        · rw [z]; exact Nat.le_add_right _ _
        · rw [z]; exact Nat.le_add_right _ _
        · rw [z]; exact Nat.le_refl _
        · rw [z]; exact Nat.le_add_right _ _
      exact I1.fpOk hle (I1.hok.fresh hle)
end Abs
namespace Abs
open PySem PySem.Spec PyProof.Rows L2
theorem boolCases (b : Bool) : b = true ∨ b = false := by cases b <;> simp
def intD : D → Option Int
  | .int i => some i
  | _ => none
theorem intD_some {d : D} {i : Int} (h : intD d = some i) : d = .int i := by
  cases d <;> first | (cases h; done) | (cases (someS h : _ = i); rfl)
def boolD : D → Option Bool
  | .bool i => some i
  | _ => none
theorem boolD_some {d : D} {i : Bool} (h : boolD d = some i) : d = .bool i := by
  cases d <;> first | (cases h; done) | (cases (someS h : _ = i); rfl)
def tupD : D → Option (List D)
  | .tuple i => some i
  | _ => none
theorem tupD_some {d : D} {i : List D} (h : tupD d = some i) : d = .tuple i := by
  cases d <;> first | (cases h; done) | (cases (someS h : _ = i); rfl)
def asN2 {α : Type} : List α → Option (α × α)
  | [a, b] => some (a, b)
  | _ => none
def asN3 {α : Type} : List α → Option (α × α × α)
  | [a, b, c] => some (a, b, c)
  | _ => none
theorem asN2_some {α : Type} {l : List α} {p : α × α} (h : asN2 l = some p) : l = [p.1, p.2] := by
  unfold asN2 at h
  split at h
  · cases (someS h : _ = p); rfl
  · cases h
theorem asN3_some {α : Type} {l : List α} {p : α × α × α} (h : asN3 l = some p) : l = [p.1, p.2.1, p.2.2] := by
  unfold asN3 at h
  split at h
  · cases (someS h : _ = p); rfl
  · cases h
def isN : D → Bool
  | .none => true
  | _ => false
def enumG {α : Type} : Nat → List α → List (Int × α)
  | _, [] => []
  | n, x :: xs => ((n : Int), x) :: enumG (n + 1) xs
def enumL {α : Type} (l : List α) : List (Int × α) := enumG 0 l
theorem enumG_get {α : Type} : ∀ (n : Nat) (l : List α) (i : Nat), (enumG n l)[i]? = (l[i]?).map fun x => (((n + i : Nat) : Int), x)
  | n, [], i => by simp [enumG]
  | n, x :: xs, 0 => by simp [enumG]
  | n, x :: xs, i + 1 => by
    unfold enumG
    rw [List.getElem?_cons_succ, List.getElem?_cons_succ, enumG_get (n + 1) xs i]
    congr 1
    funext y
    congr 2
    omega
theorem enumG_len {α : Type} : ∀ (n : Nat) (l : List α), (enumG n l).length = l.length
  | _, [] => rfl
  | n, x :: xs => by
    show (enumG (n + 1) xs).length + 1 = xs.length + 1
    rw [enumG_len]
def env0 (sc : Scope) : Env := { scope := sc, locals := 0, globals := 0, cells := [] }
theorem sp_env {env env' : Env} (h : env.scope = env'.scope) (e : Expr) (t : Option Expr) (l : Nat) : swapsWith e t l env = swapsWith e t l env' := by
  unfold swapsWith Env.blockKind Env.kindOf
  rw [h]
theorem sw_env {env env' : Env} (h : env.scope = env'.scope) (t : List Expr) (e : Expr) : swappedStores t e env = swappedStores t e env' := by
  unfold swappedStores Env.blockKind Env.kindOf
  rw [h]
def FUEL : Nat := 1000
theorem lnOk {α : Type} {l : List α} (n : Nat) (h : l.length = n) (hn : n ≤ sizeLine) : l.length ≤ sizeLine := h ▸ hn
theorem MD_lenN {mc tl : MS} {k : Nat} {d : Dice} : (MD mc k d ++ tl).length = mc.length + tl.length := by rw [List.length_append, MD_len]
theorem MD_lenN1 {mc tl : MS} {k : Nat} {d : Dice} {x : List D} : (MD mc k d ++ (tl ++ [x])).length = mc.length + tl.length + 1 := by simp [MD_len]; omega
theorem MD_lenN2 {mc tl : MS} {k : Nat} {d : Dice} {x y : List D} : (MD mc k d ++ (tl ++ [x, y])).length = mc.length + tl.length + 2 := by simp [MD_len]; omega
theorem lenA1 {ms : MS} {x : List D} : (ms ++ [x]).length = ms.length + 1 := by simp
theorem lenA2 {ms : MS} {x y : List D} : (ms ++ [x, y]).length = ms.length + 2 := by simp
section
variable {S : Sx} {K : PySem.W.Frag} {as as1 as2 : List Addr} {H H1 H2 H' : Hp} {ms ms1 ms2 ms3 ms' mc tl : MS} {ρ ρ1 ρ2 ρ' : Env'} {σ : L2.St} {e a b c tg iter elt : Expr} {es ifs rest : List Expr} {r r' r1 r2 r3 : Rs} {rs : List Rs} {o : Out} {st : Stmt} {bd sts p q : List Stmt} {pos px : Pos} {t u : Bool} {i j k : Int} {x y z : Str} {d d1 d2 d3 : D} {ds ds1 ds2 : List D} {Φ : Out → Prop}
theorem resMu {k : Nat} : res ms (.mu k) = (ms[k]?).map .list := rfl
theorem lresMu {k : Nat} : lres ms (.mu k) = ms[k]? := rfl
theorem ew_andD {k : Nat} {d : Dice} {q : Bool × Dice} {m : Option (Bool × Dice)} (h : ET S a ρ ms t (MD mc k d ++ tl)) (hm : (if t = true then m else some (false, d)) = some q) (h1 : t = true → m = some q → EW S (.BoolOp .And (b :: rest) pos) ρ (MD mc k d ++ tl) q.1 (MD mc k q.2 ++ tl)) : EW S (.BoolOp .And (a :: b :: rest) pos) ρ ms q.1 (MD mc k q.2 ++ tl) :=
  ew_and h (fun z => h1 z (iteT' z hm)) (fun z => by
    have e := someS (iteF' z hm)
    subst e
    exact ⟨rfl, rfl⟩)
theorem ew_orD {k : Nat} {d : Dice} {q : Bool × Dice} {m : Option (Bool × Dice)} (h : ET S a ρ ms t (MD mc k d ++ tl)) (hm : (if t = true then some (true, d) else m) = some q) (h1 : t = false → m = some q → EW S (.BoolOp .Or (b :: rest) pos) ρ (MD mc k d ++ tl) q.1 (MD mc k q.2 ++ tl)) : EW S (.BoolOp .Or (a :: b :: rest) pos) ρ ms q.1 (MD mc k q.2 ++ tl) :=
  ew_or h (fun z => h1 z (iteF' z hm)) (fun z => by
    have e := someS (iteT' z hm)
    subst e
    exact ⟨rfl, rfl⟩)
theorem ee_ifD {α : Type} {k : Nat} {d : Dice} (em : α → D) {q : α × Dice} {m m' : Option (α × Dice)} (h : ET S c ρ ms t (MD mc k d ++ tl)) (hm : (if t = true then m else m') = some q) (h1 : t = true → m = some q → EE S a ρ (MD mc k d ++ tl) (.dat (em q.1)) (MD mc k q.2 ++ tl)) (h0 : t = false → m' = some q → EE S b ρ (MD mc k d ++ tl) (.dat (em q.1)) (MD mc k q.2 ++ tl)) : EE S (.IfExp c a b pos) ρ ms (.dat (em q.1)) (MD mc k q.2 ++ tl) :=
  ee_if h (fun z => h1 z (iteT' z hm)) (fun z => h0 z (iteF' z hm))
theorem R.isN {v : V} : ∀ {d : D}, R K as H v d → decide (v = .non) = isN d
  | .none, h => by unfold R at h; subst h; rfl
  | .bool _, h => by unfold R at h; subst h; rfl
  | .int _, h => by unfold R at h; subst h; rfl
  | .str _, h => by unfold R at h; subst h; rfl
  | .list ds, h => by unfold R at h; obtain ⟨a, xs, rfl, _⟩ := h; rfl
  | .tuple ds, h => by unfold R at h; obtain ⟨a, xs, rfl, _⟩ := h; rfl
  | .dict _, h => by unfold R at h; exact h.elim
theorem op2_isN : Op2 S (fun x y H Q => y = .non ∧ Q (.bl (decide (x = .non))) H) (.dat d) (.dat .none) ms (.dat (.bool (isN d))) := fun as H0 H x y s h1 h2 Q k => by
  unfold RsOk R at h2
  refine ⟨h2, ?_⟩
  rw [R.isN (show R S.K as H x d from h1)]
  exact k _ H .refl s rBool
theorem op2_notN : Op2 S (fun x y H Q => y = .non ∧ Q (.bl (!decide (x = .non))) H) (.dat d) (.dat .none) ms (.dat (.bool (!isN d))) := fun as H0 H x y s h1 h2 Q k => by
  unfold RsOk R at h2
  refine ⟨h2, ?_⟩
  rw [R.isN (show R S.K as H x d from h1)]
  exact k _ H .refl s rBool
theorem ee_isN (hm : behindInMarks .Is b = false) (ha : EE S a ρ ms (.dat d) ms1) (hb : EE S b ρ ms1 (.dat .none) ms2) : EE S (.Compare a [.Is] [b] pos) ρ ms (.dat (.bool (isN d))) ms2 := ee_cmp (fun X hX => op_isN) hm op2_isN ha hb
theorem et_isN (hm : behindInMarks .Is b = false) (ha : EE S a ρ ms (.dat d) ms1) (hb : EE S b ρ ms1 (.dat .none) ms2) : ET S (.Compare a [.Is] [b] pos) ρ ms (isN d) ms2 := et_cmp (fun X hX => op_isN) hm op2_isN ha hb
theorem ee_notN (hm : behindInMarks .IsNot b = false) (ha : EE S a ρ ms (.dat d) ms1) (hb : EE S b ρ ms1 (.dat .none) ms2) : EE S (.Compare a [.IsNot] [b] pos) ρ ms (.dat (.bool (!isN d))) ms2 := ee_cmp (fun X hX => op_notN) hm op2_notN ha hb
theorem et_notN (hm : behindInMarks .IsNot b = false) (ha : EE S a ρ ms (.dat d) ms1) (hb : EE S b ρ ms1 (.dat .none) ms2) : ET S (.Compare a [.IsNot] [b] pos) ρ ms (!isN d) ms2 := et_cmp (fun X hX => op_notN) hm op2_notN ha hb
theorem op2_catT (hz : ds1.length + ds2.length ≤ sizeLine) : Op2 S (rCatA S.K) (.dat (.tuple ds1)) (.dat (.tuple ds2)) ms (.dat (.tuple (ds1 ++ ds2))) := fun as H0 H x y s q1 q2 Q k => by
  have q1' := q1
  have q2' := q2
  obtain ⟨p1, xs, rfl, e1, ra1⟩ := q1.tup
  obtain ⟨p2, ys, rfl, e2, ra2⟩ := q2.tup
  refine ⟨p1, p2, xs, ys, rfl, rfl, e1, e2, by rw [ra1.length, ra2.length]; exact hz, fun h => ?_, fun h1 h2 => ?_, fun h1 h2 q hq => ?_⟩
  · have : ds1 = [] := List.length_eq_zero_iff.mp (by rw [← ra1.length, h]; rfl)
    subst this
    exact k _ H .refl s q2'
  · have : ds2 = [] := List.length_eq_zero_iff.mp (by rw [← ra2.length, h2]; rfl)
    subst this
    rw [List.append_nil] at k
    exact k _ H .refl s q1'
  · exact k _ _ (.new hq) (s.new hq) (.mkTup s hq (ra1.app ra2))
theorem ee_catT {α : Type} (f : α → D) {xs ys zs : List α} (ha : EE S a ρ ms (.dat (.tuple (xs.map f))) ms1) (hb : EE S b ρ ms1 (.dat (.tuple (ys.map f))) ms2) (h : catO xs ys = some zs) :
    EE S (.BinOp a .Add b pos) ρ ms (.dat (.tuple (zs.map f))) ms2 := by
  obtain ⟨hz, rfl⟩ := catO_some h
  rw [List.map_append]
  exact ee_op (fun X hX => by have h := op_catA (X := X); rw [hX.k] at h; exact h) (op2_catT (by rw [List.length_map, List.length_map]; exact hz)) ha hb
theorem ee_revL {kk : Nat} {p1 p2 p3 : Pos} (he : EE S e ρ ms r ms1) (hl : lres ms1 r = some ds) : EE S (.Subscript e (.Slice none none (some (.UnaryOp .USub (.Constant (.int 1) kk p1) p2)) p3) pos) ρ ms (.new ds.reverse) ms1 :=
  .of (te := tRevL S.K (cE S e)) (fun X hX => by have h := pe_revL (k := kk) (p1 := p1) (p2 := p2) (p3 := p3) (pos := pos) (pe_c hX e); rw [hX.k] at h; exact h) fun as σ H Q s en k => he as σ H _ s en fun v H1 k1 s1 q1 => by
    obtain ⟨p, xs, rfl, hq, ra⟩ := q1.lst s1 hl
    exact ⟨p, xs, rfl, hq, fun q hp => k _ _ (k1.trans (.new hp)) (s1.new hp) (.mkNew s1 k1.q hp ra.rev)⟩

/-! ### stars in displays -/
theorem rsa_dat {H0 : Hp} {us : List V} : ∀ {ds : List D} {vs : List V}, RA K as H vs ds → RsA K as H0 H us rs → RsA K as H0 H (vs ++ us) (ds.map .dat ++ rs)
  | [], _, h, q => by unfold RA at h; subst h; exact q
  | d :: ds, _, h, q => by
    unfold RA at h
    obtain ⟨v, r, rfl, h1, h2⟩ := h
    exact ⟨v, r ++ us, rfl, h1, rsa_dat h2 q⟩
theorem frzA_dat : ∀ {ds : List D} {ds2 : List D}, frzA rs = some ds2 → frzA (ds.map .dat ++ rs) = some (ds ++ ds2)
  | [], _, h => h
  | d :: ds, _, h => by
    show (some d).bind (fun d => (frzA (ds.map .dat ++ rs)).map (d :: ·)) = _
    rw [frzA_dat h]; rfl
theorem ea_starT (ds1 : List D) (he : EE S e ρ ms (.dat (.tuple ds1)) ms1) (hr : EA S es ρ ms1 rs ms2) (hs : ∀ env, starEach (.Starred e pos :: es) env = (true, eval e env) :: starEach es env := by intro _; rfl) : EA S (.Starred e pos :: es) ρ ms (ds1.map .dat ++ rs) ms2 :=
  .of (te := StX.tStar S.K (cE S e) (cA S es)) (fun X hX => by have h := StX.pa_star (p := pos) (pe_c hX e) (pa_c hX es) (hs _); rw [hX.k] at h; exact h) fun as σ H Q s en k => he as σ H _ s en fun v H1 k1 s1 q1 => by
    have q1' := q1
    obtain ⟨p, xs, rfl, hq, ra⟩ := q1.tup
    exact ⟨p, xs, rfl, .inl hq, hr as σ H1 _ s1 (en.kp k1) fun vs H2 k2 s2 q2 => k _ H2 (k1.trans k2) s2 (rsa_dat (ra.kp k2) (q2.back' s1 k1))⟩

/-! ### enumerate, zip -/
theorem RA.pair {v w : V} {d1 d2 : D} {p : Addr} (hp : H p = none) (hn : p ∉ as) (h1 : R K as H v d1) (h2 : R K as H w d2) : R K as (upd H p (.tup [v, w])) (.ref p) (.tuple [d1, d2]) := by
  unfold R
  exact ⟨p, [v, w], rfl, .inl ⟨hn, .inl upd_same⟩, RA.cons (h1.kq (.new hp)) (RA.cons (h2.kq (.new hp)) RA.nil)⟩
theorem it_enumL {α : Type} (f : α → D) {l : List α} {t : List (Int × α)} {elts : List Expr} {kk : Nat} {tpos : Pos} (hm : S.mg "enumerate" = none) (hg : S.sc.names.lookup (Str.ofString "enumerate") = some .globalImplicit) (ha : EA S [e] ρ ms [r] ms1) (hl : lres ms1 r = some (l.map f)) (h : some (enumL l) = some t)
    (hs : ∀ env, starEach [e] env = [(false, eval e env)] := by intro _; rfl) :
    IT S (.Tuple elts kk tpos) (.Call (.Name "enumerate" px) [e] [] pos) ρ ms (t.map fun p => .tuple [.int p.1, f p.2]) ms1 (fun m => lres m r = some (l.map f)) := fun as σ H Rr s en k =>
  ⟨iEnum S.K (cA S [e]), fun X hX => by have h := pi_enum (tpos := tpos) (elts := elts) (kk := kk) (p := px) (pos := pos) (hX.gl hg) (by rw [hX.mg]; exact hm) (pa_c hX [e]) (hs _); rw [hX.k] at h; exact h, ha as σ H _ s en fun vs H1 k1 s1 qa => by
    obtain ⟨v, rfl, q1⟩ := rs1 qa
    obtain ⟨a, xs, rfl, hq, ra⟩ := q1.lst s1 hl
    obtain rfl := someS h
    refine ⟨a, xs, rfl, hq, k _ H1 k1 s1 fun l' H1' hl' kq => ?_⟩
    have at_ : ∀ (H2 : Hp) (m : MS), Kp (S.T (as ++ l')) H1' H2 → SR S.K (as ++ l') H2 m → lres m r = some (l.map f) → ∃ xs, SqL S.K H2 a xs ∧ RA S.K (as ++ l') H2 xs (l.map f) := fun H2 m k2 s2 g2 => by
      obtain ⟨a', ys, e, h1, h2⟩ := ((q1.ext kq hl').kp k2).lst s2 g2
      cases e
      exact ⟨ys, h1, h2⟩
    have hlen : ((enumL l).map fun p => PyData.tuple [.int p.1, f p.2]).length = l.length := by rw [List.length_map]; exact enumG_len 0 l
    refine ⟨fun i H2 m hi k2 s2 g2 => ?_, fun H2 m k2 s2 g2 => ?_, fun i H2 m v H3 hi k2 s2 g2 hy => ?_⟩
    · obtain ⟨ys, h1, h2⟩ := at_ H2 m k2 s2 g2
      have hi' : i < (l.map f).length := by rw [List.length_map, ← hlen]; exact hi
      obtain ⟨v, e1, _⟩ := h2.get (List.getElem?_eq_getElem hi')
      exact ⟨ys, v, h1, e1⟩
    · obtain ⟨ys, h1, h2⟩ := at_ H2 m k2 s2 g2
      exact ⟨ys, h1, by rw [h2.length, hlen, List.length_map]; exact Nat.le_refl _⟩
    · obtain ⟨ys, h1, h2⟩ := at_ H2 m k2 s2 g2
      obtain ⟨T, x, rfl, hT, rfl, hy⟩ := hy
      obtain ⟨d, e1, e2⟩ := h2.get' (hy ys h1)
      rw [List.getElem?_map] at e1
      cases q : l[i]? with
      | none => rw [q] at e1; cases e1
      | some y =>
        rw [q] at e1
        cases (someS e1 : _ = d)
        refine ⟨.new hT, s2.new hT, .tuple [.int ((0 + i : Nat) : Int), f y], ?_, ?_⟩
        · rw [List.getElem?_map]
          unfold enumL
          rw [enumG_get, q]; rfl
        · exact RA.pair hT (s2.notin hT) (by unfold R; rw [Nat.zero_add]) e2⟩
theorem it_enumT {α : Type} (f : α → D) {l : List α} {t : List (Int × α)} {elts : List Expr} {kk : Nat} {tpos : Pos} (hm : S.mg "enumerate" = none) (hg : S.sc.names.lookup (Str.ofString "enumerate") = some .globalImplicit) (ha : EA S [e] ρ ms [.dat (.tuple (l.map f))] ms1) (h : some (enumL l) = some t)
    (hs : ∀ env, starEach [e] env = [(false, eval e env)] := by intro _; rfl) :
    IT S (.Tuple elts kk tpos) (.Call (.Name "enumerate" px) [e] [] pos) ρ ms (t.map fun p => .tuple [.int p.1, f p.2]) ms1 (fun _ => True) := fun as σ H Rr s en k =>
  ⟨iEnumT S.K (cA S [e]), fun X hX => by have h := pi_enumT (tpos := tpos) (elts := elts) (kk := kk) (p := px) (pos := pos) (hX.gl hg) (by rw [hX.mg]; exact hm) (pa_c hX [e]) (hs _); rw [hX.k] at h; exact h, ha as σ H _ s en fun vs H1 k1 s1 qa => by
    obtain ⟨v, rfl, q1⟩ := rs1 qa
    obtain ⟨a, xs, rfl, hq, ra⟩ := q1.tup
    obtain rfl := someS h
    refine ⟨a, xs, rfl, hq, k _ H1 k1 s1 fun l' H1' hl' kq => ?_⟩
    have at_ : ∀ (H2 : Hp), Kp (S.T (as ++ l')) H1' H2 → ∃ xs, SqT S.K H2 a xs ∧ RA S.K (as ++ l') H2 xs (l.map f) := fun H2 k2 => by
      obtain ⟨a', ys, e, h1, h2⟩ := ((q1.ext kq hl').kp k2).tup
      cases e
      exact ⟨ys, h1, h2⟩
    have hlen : ((enumL l).map fun p => PyData.tuple [.int p.1, f p.2]).length = l.length := by rw [List.length_map]; exact enumG_len 0 l
    refine ⟨fun i H2 m hi k2 s2 g2 => ?_, fun H2 m k2 s2 g2 => ?_, fun i H2 m v H3 hi k2 s2 g2 hy => ?_⟩
    · obtain ⟨ys, h1, h2⟩ := at_ H2 k2
      have hi' : i < (l.map f).length := by rw [List.length_map, ← hlen]; exact hi
      obtain ⟨v, e1, _⟩ := h2.get (List.getElem?_eq_getElem hi')
      exact ⟨ys, v, h1, e1⟩
    · obtain ⟨ys, h1, h2⟩ := at_ H2 k2
      exact ⟨ys, h1, by rw [h2.length, hlen, List.length_map]⟩
    · obtain ⟨ys, h1, h2⟩ := at_ H2 k2
      obtain ⟨T, x, rfl, hT, rfl, hy⟩ := hy
      obtain ⟨d, e1, e2⟩ := h2.get' (hy ys h1)
      rw [List.getElem?_map] at e1
      cases q : l[i]? with
      | none => rw [q] at e1; cases e1
      | some y =>
        rw [q] at e1
        cases (someS e1 : _ = d)
        refine ⟨.new hT, s2.new hT, .tuple [.int ((0 + i : Nat) : Int), f y], ?_, ?_⟩
        · rw [List.getElem?_map]
          unfold enumL
          rw [enumG_get, q]; rfl
        · exact RA.pair hT (s2.notin hT) (by unfold R; rw [Nat.zero_add]) e2⟩
theorem zipD_get {α β : Type} (f : α → D) (g : β → D) {l : List α} {m : List β} {i : Nat} {d1 d2 : D} (h1 : (l.map f)[i]? = some d1) (h2 : (m.map g)[i]? = some d2) : ((List.zip l m).map fun p => PyData.tuple [f p.1, g p.2])[i]? = some (.tuple [d1, d2]) := by
  rw [List.getElem?_map] at h1 h2
  cases q1 : l[i]? with
  | none => rw [q1] at h1; cases h1
  | some x =>
    cases q2 : m[i]? with
    | none => rw [q2] at h2; cases h2
    | some y =>
      rw [q1] at h1; rw [q2] at h2
      cases (someS h1 : _ = d1)
      cases (someS h2 : _ = d2)
      rw [List.getElem?_map, List.getElem?_zip_eq_some (z := (x, y)) |>.mpr ⟨q1, q2⟩]
      rfl
theorem it_zipTT {α β : Type} (f : α → D) (g : β → D) {l1 : List α} {l2 : List β} {t : List (α × β)} {elts : List Expr} {kk : Nat} {tpos : Pos} (hm : S.mg "zip" = none) (hg : S.sc.names.lookup (Str.ofString "zip") = some .globalImplicit) (ha : EA S [a, b] ρ ms [.dat (.tuple (l1.map f)), .dat (.tuple (l2.map g))] ms1) (h : some (List.zip l1 l2) = some t)
    (hs : ∀ env, starEach [a, b] env = (false, eval a env) :: starEach [b] env := by intro _; rfl) (hpl : ∀ pos env, (backTo pos (starEach [b] env)).any (·.1) = false := by intro _ _; rfl) :
    IT S (.Tuple elts kk tpos) (.Call (.Name "zip" px) [a, b] [] pos) ρ ms (t.map fun p => .tuple [f p.1, g p.2]) ms1 (fun _ => True) := fun as σ H Rr s en k =>
  ⟨RZ.iZipA S.K (cA S [a, b]), fun X hX => by have h := RZ.pi_zipA (tpos := tpos) (elts := elts) (kk := kk) (p := px) (pos := pos) (hX.gl hg) (by rw [hX.mg]; exact hm) (pa_c hX [a, b]) (hs _) (hpl _ _); rw [hX.k] at h; exact h, ha as σ H _ s en fun vs H1 k1 s1 qa => by
    obtain ⟨v, u, rfl, q1, q2⟩ := rs2 qa
    obtain ⟨a, xs, rfl, hq, ra⟩ := q1.tup
    obtain ⟨b, ys, rfl, hq2, ra2⟩ := q2.tup
    obtain rfl := someS h
    refine ⟨a, b, xs, ys, rfl, .inr ⟨hq, hq2, k _ H1 k1 s1 fun l' H1' hl' kq => ?_⟩⟩
    have at1 : ∀ (H2 : Hp), Kp (S.T (as ++ l')) H1' H2 → ∃ xs, SqT S.K H2 a xs ∧ RA S.K (as ++ l') H2 xs (l1.map f) := fun H2 k2 => by
      obtain ⟨a', ys, e, h1, h2⟩ := ((q1.ext kq hl').kp k2).tup
      cases e
      exact ⟨ys, h1, h2⟩
    have at2 : ∀ (H2 : Hp), Kp (S.T (as ++ l')) H1' H2 → ∃ xs, SqT S.K H2 b xs ∧ RA S.K (as ++ l') H2 xs (l2.map g) := fun H2 k2 => by
      obtain ⟨a', ys, e, h1, h2⟩ := ((q2.ext kq hl').kp k2).tup
      cases e
      exact ⟨ys, h1, h2⟩
    have hlen : ((List.zip l1 l2).map fun p => PyData.tuple [f p.1, g p.2]).length = min l1.length l2.length := by rw [List.length_map, List.length_zip]
    refine ⟨fun i H2 m hi k2 s2 g2 => ?_, fun H2 m k2 s2 g2 => ?_, fun i H2 m v H3 hi k2 s2 g2 hy => ?_⟩
    · obtain ⟨xs, h1, h2⟩ := at1 H2 k2
      obtain ⟨ys, h3, h4⟩ := at2 H2 k2
      rw [hlen] at hi
      obtain ⟨v, e1, _⟩ := h2.get (List.getElem?_eq_getElem (show i < (l1.map f).length by rw [List.length_map]; omega))
      obtain ⟨w, e2, _⟩ := h4.get (List.getElem?_eq_getElem (show i < (l2.map g).length by rw [List.length_map]; omega))
      exact ⟨xs, ys, v, w, h1, h3, e1, e2⟩
    · obtain ⟨xs, h1, h2⟩ := at1 H2 k2
      obtain ⟨ys, h3, h4⟩ := at2 H2 k2
      have n1 := h2.length
      have n2 := h4.length
      rw [List.length_map] at n1 n2
      exact ⟨xs, ys, h1, h3, by rw [hlen]; omega⟩
    · obtain ⟨xs, h1, h2⟩ := at1 H2 k2
      obtain ⟨ys, h3, h4⟩ := at2 H2 k2
      obtain ⟨T, x, y, rfl, hT, rfl, hy1, hy2⟩ := hy
      obtain ⟨d, e1, e2⟩ := h2.get' (hy1 xs h1)
      obtain ⟨d', e3, e4⟩ := h4.get' (hy2 ys h3)
      exact ⟨.new hT, s2.new hT, .tuple [d, d'], zipD_get f g e1 e3, RA.pair hT (s2.notin hT) e2 e4⟩⟩
theorem it_zipLT {α β : Type} (f : α → D) (g : β → D) {l1 : List α} {l2 : List β} {t : List (α × β)} {elts : List Expr} {kk : Nat} {tpos : Pos} (hm : S.mg "zip" = none) (hg : S.sc.names.lookup (Str.ofString "zip") = some .globalImplicit) (ha : EA S [a, b] ρ ms [r, .dat (.tuple (l2.map g))] ms1) (hl : lres ms1 r = some (l1.map f)) (h : some (List.zip l1 l2) = some t)
    (hs : ∀ env, starEach [a, b] env = (false, eval a env) :: starEach [b] env := by intro _; rfl) (hpl : ∀ pos env, (backTo pos (starEach [b] env)).any (·.1) = false := by intro _ _; rfl) :
    IT S (.Tuple elts kk tpos) (.Call (.Name "zip" px) [a, b] [] pos) ρ ms (t.map fun p => .tuple [f p.1, g p.2]) ms1 (fun m => lres m r = some (l1.map f)) := fun as σ H Rr s en k =>
  ⟨iZipM S.K (cA S [a, b]), fun X hX => by have h := pi_zipM (tpos := tpos) (elts := elts) (kk := kk) (p := px) (pos := pos) (hX.gl hg) (by rw [hX.mg]; exact hm) (pa_c hX [a, b]) (hs _) (hpl _ _); rw [hX.k] at h; exact h, ha as σ H _ s en fun vs H1 k1 s1 qa => by
    obtain ⟨v, u, rfl, q1, q2⟩ := rs2 qa
    obtain ⟨a, xs, rfl, hq, ra⟩ := q1.lst s1 hl
    obtain ⟨b, ys, rfl, hq2, ra2⟩ := q2.tup
    obtain rfl := someS h
    refine ⟨a, b, xs, ys, rfl, hq, hq2, k _ H1 k1 s1 fun l' H1' hl' kq => ?_⟩
    have at1 : ∀ (H2 : Hp) (m : MS), Kp (S.T (as ++ l')) H1' H2 → SR S.K (as ++ l') H2 m → lres m r = some (l1.map f) → ∃ xs, SqL S.K H2 a xs ∧ RA S.K (as ++ l') H2 xs (l1.map f) := fun H2 m k2 s2 g2 => by
      obtain ⟨a', ys, e, h1, h2⟩ := ((q1.ext kq hl').kp k2).lst s2 g2
      cases e
      exact ⟨ys, h1, h2⟩
    have at2 : ∀ (H2 : Hp), Kp (S.T (as ++ l')) H1' H2 → ∃ xs, SqT S.K H2 b xs ∧ RA S.K (as ++ l') H2 xs (l2.map g) := fun H2 k2 => by
      obtain ⟨a', ys, e, h1, h2⟩ := ((q2.ext kq hl').kp k2).tup
      cases e
      exact ⟨ys, h1, h2⟩
    have hlen : ((List.zip l1 l2).map fun p => PyData.tuple [f p.1, g p.2]).length = min l1.length l2.length := by rw [List.length_map, List.length_zip]
    refine ⟨fun i H2 m hi k2 s2 g2 => ?_, fun H2 m k2 s2 g2 => ?_, fun i H2 m v H3 hi k2 s2 g2 hy => ?_⟩
    · obtain ⟨xs, h1, h2⟩ := at1 H2 m k2 s2 g2
      obtain ⟨ys, h3, h4⟩ := at2 H2 k2
      rw [hlen] at hi
      obtain ⟨v, e1, _⟩ := h2.get (List.getElem?_eq_getElem (show i < (l1.map f).length by rw [List.length_map]; omega))
      obtain ⟨w, e2, _⟩ := h4.get (List.getElem?_eq_getElem (show i < (l2.map g).length by rw [List.length_map]; omega))
      exact ⟨xs, ys, v, w, h1, h3, e1, e2⟩
    · obtain ⟨xs, h1, h2⟩ := at1 H2 m k2 s2 g2
      obtain ⟨ys, h3, h4⟩ := at2 H2 k2
      have n1 := h2.length
      have n2 := h4.length
      rw [List.length_map] at n1 n2
      exact ⟨xs, ys, h1, h3, by rw [hlen]; omega, by rw [hlen]; omega, by rw [hlen]; omega⟩
    · obtain ⟨xs, h1, h2⟩ := at1 H2 m k2 s2 g2
      obtain ⟨ys, h3, h4⟩ := at2 H2 k2
      obtain ⟨T, x, y, rfl, hT, rfl, hy1, hy2⟩ := hy
      obtain ⟨d, e1, e2⟩ := h2.get' (hy1 xs h1)
      obtain ⟨d', e3, e4⟩ := h4.get' (hy2 ys h3)
      exact ⟨.new hT, s2.new hT, .tuple [d, d'], zipD_get f g e1 e3, RA.pair hT (s2.notin hT) e2 e4⟩⟩
theorem it_zipLL {α β : Type} (f : α → D) (g : β → D) {l1 : List α} {l2 : List β} {t : List (α × β)} {elts : List Expr} {kk : Nat} {tpos : Pos} (hm : S.mg "zip" = none) (hg : S.sc.names.lookup (Str.ofString "zip") = some .globalImplicit) (ha : EA S [a, b] ρ ms [r1, r2] ms1) (hl1 : lres ms1 r1 = some (l1.map f)) (hl2 : lres ms1 r2 = some (l2.map g)) (h : some (List.zip l1 l2) = some t)
    (hs : ∀ env, starEach [a, b] env = (false, eval a env) :: starEach [b] env := by intro _; rfl) (hpl : ∀ pos env, (backTo pos (starEach [b] env)).any (·.1) = false := by intro _ _; rfl) :
    IT S (.Tuple elts kk tpos) (.Call (.Name "zip" px) [a, b] [] pos) ρ ms (t.map fun p => .tuple [f p.1, g p.2]) ms1 (fun m => lres m r1 = some (l1.map f) ∧ lres m r2 = some (l2.map g)) := fun as σ H Rr s en k =>
  ⟨iZip S.K (cA S [a, b]), fun X hX => by have h := pi_zip (tpos := tpos) (elts := elts) (kk := kk) (p := px) (pos := pos) (hX.gl hg) (by rw [hX.mg]; exact hm) (pa_c hX [a, b]) (hs _) (hpl _ _); rw [hX.k] at h; exact h, ha as σ H _ s en fun vs H1 k1 s1 qa => by
    obtain ⟨v, u, rfl, q1, q2⟩ := rs2 qa
    obtain ⟨a, xs, rfl, hq, ra⟩ := q1.lst s1 hl1
    obtain ⟨b, ys, rfl, hq2, ra2⟩ := q2.lst s1 hl2
    obtain rfl := someS h
    refine ⟨a, b, xs, ys, rfl, hq, hq2, k _ H1 k1 s1 fun l' H1' hl' kq => ?_⟩
    have at1 : ∀ (H2 : Hp) (m : MS), Kp (S.T (as ++ l')) H1' H2 → SR S.K (as ++ l') H2 m → lres m r1 = some (l1.map f) → ∃ xs, SqL S.K H2 a xs ∧ RA S.K (as ++ l') H2 xs (l1.map f) := fun H2 m k2 s2 g2 => by
      obtain ⟨a', ys, e, h1, h2⟩ := ((q1.ext kq hl').kp k2).lst s2 g2
      cases e
      exact ⟨ys, h1, h2⟩
    have at2 : ∀ (H2 : Hp) (m : MS), Kp (S.T (as ++ l')) H1' H2 → SR S.K (as ++ l') H2 m → lres m r2 = some (l2.map g) → ∃ xs, SqL S.K H2 b xs ∧ RA S.K (as ++ l') H2 xs (l2.map g) := fun H2 m k2 s2 g2 => by
      obtain ⟨a', ys, e, h1, h2⟩ := ((q2.ext kq hl').kp k2).lst s2 g2
      cases e
      exact ⟨ys, h1, h2⟩
    have hlen : ((List.zip l1 l2).map fun p => PyData.tuple [f p.1, g p.2]).length = min l1.length l2.length := by rw [List.length_map, List.length_zip]
    refine ⟨fun i H2 m hi k2 s2 g2 => ?_, fun H2 m k2 s2 g2 => ?_, fun i H2 m v H3 hi k2 s2 g2 hy => ?_⟩
    · obtain ⟨xs, h1, h2⟩ := at1 H2 m k2 s2 g2.1
      obtain ⟨ys, h3, h4⟩ := at2 H2 m k2 s2 g2.2
      rw [hlen] at hi
      obtain ⟨v, e1, _⟩ := h2.get (List.getElem?_eq_getElem (show i < (l1.map f).length by rw [List.length_map]; omega))
      obtain ⟨w, e2, _⟩ := h4.get (List.getElem?_eq_getElem (show i < (l2.map g).length by rw [List.length_map]; omega))
      exact ⟨xs, ys, v, w, h1, h3, e1, e2⟩
    · obtain ⟨xs, h1, h2⟩ := at1 H2 m k2 s2 g2.1
      obtain ⟨ys, h3, h4⟩ := at2 H2 m k2 s2 g2.2
      have n1 := h2.length
      have n2 := h4.length
      rw [List.length_map] at n1 n2
      exact ⟨xs, ys, h1, h3, by rw [hlen]; omega⟩
    · obtain ⟨xs, h1, h2⟩ := at1 H2 m k2 s2 g2.1
      obtain ⟨ys, h3, h4⟩ := at2 H2 m k2 s2 g2.2
      obtain ⟨T, x, y, rfl, hT, rfl, hy1, hy2⟩ := hy
      obtain ⟨d, e1, e2⟩ := h2.get' (hy1 xs h1)
      obtain ⟨d', e3, e4⟩ := h4.get' (hy2 ys h3)
      exact ⟨.new hT, s2.new hT, .tuple [d, d'], zipD_get f g e1 e3, RA.pair hT (s2.notin hT) e2 e4⟩⟩
theorem it_rngO {n : Int} {t : List Int} (hm : S.mg "range" = none) (hg : S.sc.names.lookup (Str.ofString "range") = some .globalImplicit) (hs : ∀ X : Cx, ∀ t : TA, PA X [a] t → Gl X "range" → X.mg "range" = none → PI X tg (.Call (.Name "range" px) [a] [] pos) (iRng1 t))
    (ha : EA S [a] ρ ms [.dat (.int n)] ms1) (h : rgO n = some t) : IT S tg (.Call (.Name "range" px) [a] [] pos) ρ ms (t.map .int) ms1 (fun _ => True) := by
  obtain ⟨c, e⟩ := rgO_some h
  rw [← e]
  exact it_rng1 hm hg hs ha c
theorem it_rng2O {m n : Int} {t : List Int} (hm : S.mg "range" = none) (hg : S.sc.names.lookup (Str.ofString "range") = some .globalImplicit) (hs : ∀ X : Cx, ∀ t : TA, PA X [a, b] t → Gl X "range" → X.mg "range" = none → PI X tg (.Call (.Name "range" px) [a, b] [] pos) (iRng2 t))
    (ha : EA S [a, b] ρ ms [.dat (.int m), .dat (.int n)] ms1) (h : rg2O m n = some t) : IT S tg (.Call (.Name "range" px) [a, b] [] pos) ρ ms (t.map .int) ms1 (fun _ => True) := by
  obtain ⟨c, e⟩ := rg2O_some h
  rw [← e]
  exact it_rng2 hm hg hs ha c
theorem it_D {G : MS → Prop} (h : IT S tg e ρ ms ds ms1 G) : IT S tg e ρ ms (ds.map fun d : D => d) ms1 G := by rw [List.map_id']; exact h
end
end Abs
namespace Abs
open PySem PySem.Spec PyProof.Rows L2
/-- the state behind a loop that is not left by a return -/
def loSt {τ : Type} : Lo τ Unit → Option τ
  | .go s => some s
  | .brk s => some s
  | .ret _ => none
theorem loSt_end {τ : Type} {o : Lo τ Unit} {s : τ} {env : τ → Env'} {mst : τ → MS} {rr : Unit → Rs} {mr : Unit → MS} (h : loSt o = some s) : loEnd env mst rr mr o = .nx (env s) (mst s) := by
  cases o with
  | go t => cases (someS h : t = s); rfl
  | brk t => cases (someS h : t = s); rfl
  | ret b => cases h
theorem cpow_ok {i j : Int} (h : (decide (0 ≤ j) && decide (j ≤ 1000000) && decide (i.natAbs < 2 ^ 64)) = true) : L2.CPow i j := by
  simp only [Bool.and_eq_true, decide_eq_true_eq] at h
  exact ⟨h.1.1, h.1.2, h.2⟩
theorem cmul_ok {i j : Int} (h : decide (i.natAbs.log2 + j.natAbs.log2 < 1000000) = true) : L2.CMulW i j := by
  simp only [decide_eq_true_eq] at h
  exact h
theorem isI {i j : Int} (h : i = j) : Rs.dat (.int i) = Rs.dat (.int j) := by rw [h]
theorem catO_ok {α : Type} {xs ys zs : List α} (n : Nat) (h : xs ++ ys = zs) (hl : xs.length + ys.length = n) (hn : n ≤ sizeLine) : catO xs ys = some zs := by
  unfold catO
  rw [if_pos (by rw [hl]; exact hn), h]
theorem sp_law {K : PySem.W.Frag} {F : Rel} {H : Hp} {a : Addr} {ns : List Int} {E : XK} (hS : SqL K H a (ns.map V.int)) (hF : F [.scr ns] [] (.dat (.bool true)) []) : spR K F [.ref a] H (fun v _ => v = .bl true) E :=
  ⟨[], [], [.scr ns], .dat (.bool true), [], ⟨List.nodup_nil, rfl, fun k a ds e => by simp at e⟩, ⟨.ref a, [], rfl, ⟨a, rfl, hS.imp (fun q => ⟨by simp, q⟩) id⟩, rfl⟩, hF, fun v H' _ _ q => q.bool⟩
/-- sorted of nothing -/
def sorted0 {α : Type} : List α → Option (List α)
  | [] => some []
  | _ :: _ => none
section
variable {S : Sx} {K : PySem.W.Frag} {as as1 as2 : List Addr} {H H1 H2 H' : Hp} {ms ms1 ms2 ms3 ms' mc tl : MS} {ρ ρ1 ρ2 ρ' : Env'} {σ : L2.St} {e a b c tg iter elt ox : Expr} {es ifs rest : List Expr} {r r' r1 r2 r3 : Rs} {rs : List Rs} {o : Out} {st : Stmt} {bd sts p q : List Stmt} {pos px ap : Pos} {t u : Bool} {i j k : Int} {x y z : Str} {d d1 d2 d3 : D} {ds ds1 ds2 : List D} {Φ : Out → Prop}
theorem ss_is (h : SS S st ρ ms o) {o' : Out} (q : o = o') : SS S st ρ ms o' := q ▸ h
theorem ee_sorted0 {α : Type} (f : α → D) {l l' : List α} (hm : S.mg "sorted" = none) (hg : S.sc.names.lookup (Str.ofString "sorted") = some .globalImplicit) (ha : EA S [e] ρ ms [r] ms1) (hl : lres ms1 r = some (l.map f)) (h : sorted0 l = some l')
    (he : ∀ env, starEach [e] env = (false, eval e env) :: starEach [] env := by intro _; rfl) : EE S (.Call (.Name "sorted" px) [e] [] pos) ρ ms (.new (l'.map f)) ms1 := by
  cases l with
  | cons _ _ => cases h
  | nil =>
    cases (someS h : [] = l')
    refine ee_cb (fun X hX => by have h := cr_sorted (X := X); rw [hX.k] at h; exact h) hm hg bt_sorted ?_ ha (he := he) (hpl := fun _ => rfl)
    intro as H0 H vs s q Q k
    obtain ⟨v, rfl, q1⟩ := rs1 q
    obtain ⟨a, xs, rfl, hq, ra⟩ := q1.lst s hl
    have hx : xs = [] := List.length_eq_zero_iff.mp ra.length
    subst hx
    refine ⟨a, [], rfl, hq, by decide, fun ns' p hp _ hn => ?_⟩
    obtain rfl := hp.eq_nil
    exact k _ _ (.new hn) (s.new hn) (.mkNew s .refl hn RA.nil)
/-- x.append(e), x a list of one's own -/
theorem ss_appP {α : Type} {pos2 : Pos} (f : α → D) {l l' : List α} {v : α} {j : Nat} {loc loc' : MS} (hb : ∀ X : Cx, ∀ (to : TE) (ta : TA), PE X ox to → PA X [e] ta → PE X (.Call (.Attribute ox "append" ap) [e] [] pos) (tBM X.K "list" rAppend to ta)) (hs : ∀ env, swapsWith (.Call (.Attribute ox "append" ap) [e] [] pos) none pos2.line env = pure false)
    (ho : EE S ox ρ (ms ++ loc) (.mu (ms.length + j)) (ms ++ loc)) (ha : EA S [e] ρ (ms ++ loc) [r] (ms ++ loc)) (hr : frz r = some (f v)) (hk : loc[j]? = some (l.map f)) (h : appO l v = some l') (hn : S.n0 ≤ ms.length) (hl : loc.set j (l'.map f) = loc') :
    SS S (.Expr (.Call (.Attribute ox "append" ap) [e] [] pos) pos2) ρ (ms ++ loc) (.nx ρ (ms ++ loc')) := by
  obtain ⟨hz, rfl⟩ := appO_some h
  have w := ee_append hb ho ha hr (by rw [lkP]; exact hk) (by rw [List.length_map]; exact hz) (.inl (by omega))
  refine ss_drop hs (ee_ms w ?_)
  rw [stP, ← hl, List.map_append]; rfl
theorem ss_appD {α : Type} {pos2 : Pos} {kk : Nat} {d0 d : Dice} (f : α → D) {l l' : List α} {v : α} {j : Nat} {loc loc' : MS} (hb : ∀ X : Cx, ∀ (to : TE) (ta : TA), PE X ox to → PA X [e] ta → PE X (.Call (.Attribute ox "append" ap) [e] [] pos) (tBM X.K "list" rAppend to ta)) (hs : ∀ env, swapsWith (.Call (.Attribute ox "append" ap) [e] [] pos) none pos2.line env = pure false)
    (ho : EE S ox ρ (MD mc kk d0 ++ (tl ++ loc)) (.mu (mc.length + tl.length + j)) (MD mc kk d0 ++ (tl ++ loc))) (ha : EA S [e] ρ (MD mc kk d0 ++ (tl ++ loc)) [r] (MD mc kk d ++ (tl ++ loc))) (hr : frz r = some (f v)) (hk : loc[j]? = some (l.map f)) (h : appO l v = some l') (hn : S.n0 ≤ mc.length + tl.length) (hl : loc.set j (l'.map f) = loc') :
    SS S (.Expr (.Call (.Attribute ox "append" ap) [e] [] pos) pos2) ρ (MD mc kk d0 ++ (tl ++ loc)) (.nx ρ (MD mc kk d ++ (tl ++ loc'))) := by
  obtain ⟨hz, rfl⟩ := appO_some h
  have w := ee_append hb ho ha hr (by rw [lkD]; exact hk) (by rw [List.length_map]; exact hz) (.inl (by omega))
  refine ss_drop hs (ee_ms w ?_)
  rw [stD, ← hl, List.map_append]; rfl
theorem ss_extP {α : Type} {pos2 : Pos} (f : α → D) {l l2 l' : List α} {j : Nat} {loc loc' : MS} (hb : ∀ X : Cx, ∀ (to : TE) (ta : TA), PE X ox to → PA X [e] ta → PE X (.Call (.Attribute ox "extend" ap) [e] [] pos) (tBM X.K "list" rExtend to ta)) (hs : ∀ env, swapsWith (.Call (.Attribute ox "extend" ap) [e] [] pos) none pos2.line env = pure false)
    (ho : EE S ox ρ (ms ++ loc) (.mu (ms.length + j)) (ms ++ loc)) (ha : EA S [e] ρ (ms ++ loc) [.new (l2.map f)] (ms ++ loc)) (hk : loc[j]? = some (l.map f)) (h : catO l l2 = some l') (hn : S.n0 ≤ ms.length) (hl : loc.set j (l'.map f) = loc') :
    SS S (.Expr (.Call (.Attribute ox "extend" ap) [e] [] pos) pos2) ρ (ms ++ loc) (.nx ρ (ms ++ loc')) := by
  obtain ⟨hz, rfl⟩ := catO_some h
  have w := ee_extend hb ho ha (by rw [lkP]; exact hk) (by rw [List.length_map, List.length_map]; exact hz) (.inl (by omega))
  refine ss_drop hs (ee_ms w ?_)
  rw [stP, ← hl, List.map_append]
/-- opening beside dice -/
theorem hm_dice {kk : Nat} {d d' : Dice} {n0 : Nat} {T : Nat → Bool} (hkm : kk < mc.length) (hn : n0 = mc.length + tl.length) (ht : ∀ j, T j = true → j = kk) : ∀ (j : Nat) (es : List D), (MD mc kk d' ++ tl)[j]? = some es → es.all flatD = true ∨ ((MD mc kk d ++ tl)[j]? = some es ∧ ¬ (n0 ≤ j ∨ T j = true)) := by
  intro j es h
  have hj := (List.getElem?_eq_some_iff.mp h).1
  rw [MD_lenN] at hj
  by_cases e : j = kk
  · subst e
    rw [MD_at hkm] at h
    cases (someS h : eDice d' = es)
    left; rfl
  · right
    refine ⟨?_, fun z => ?_⟩
    · rw [← h]
      by_cases hk : j < mc.length
      · rw [List.getElem?_append_left (by rw [MD_len]; exact hk), List.getElem?_append_left (by rw [MD_len]; exact hk)]
        unfold MD
        rw [List.getElem?_set_ne (Ne.symm e), List.getElem?_set_ne (Ne.symm e)]
      · rw [List.getElem?_append_right (by rw [MD_len]; omega), List.getElem?_append_right (by rw [MD_len]; omega), MD_len, MD_len]
    · rcases z with z | z
      · omega
      · exact e (ht j z)
/-- an assignment whose stores are looked at in this scope -/
theorem ss_asgS (hs : ∀ env, swapsWithSole [tg] e pos.line env = pure false) (hw : ∀ X, InS S X → swappedStores [tg] e X.env = pure none) (h1 : ∀ env, (assignEach [tg] env).map (·.2) = [assign tg env])
    (he : EE S e ρ ms r ms') (hr : frz r = some d) {sl : List Nat} (hg : EG S tg d ρ ρ' sl) : SS S (.Assign [tg] e pos) ρ ms (.nx ρ' ms') :=
  .of (fun X hX => ps_asg (pe_c hX e) (pg_c hX tg) (hs _) (hw X hX) (h1 _)) fun as σ H D s en k => he as σ H _ s en fun v H1 k1 s1 q1 => hg as σ H1 v _ (en.kp k1) (q1.frz hr) fun σ' en' _ => k as σ' H1 (.of k1) s1 en'
/-- x, y = a, b: b a new list that will be changed; the stores one behind the other -/
theorem ss_asg_do {py pt : Pos} {kt k2 pt2} (i j : Nat) (hN : S.N.Nodup) (hi : S.N[i]? = some x) (hj : S.N[j]? = some y) (hx : Loc S.sc x) (hy : Loc S.sc y) (hfx : S.cl x = true ∨ S.sc.names.lookup x = some .local) (hfy : S.cl y = true ∨ S.sc.names.lookup y = some .local)
    (hs : ∀ env, swapsWithSole [.Tuple [.Name x px, .Name y py] kt pt] (.Tuple [a, b] k2 pt2) pos.line env = pure false) (hw : ∀ X, InS S X → swappedStores [.Tuple [.Name x px, .Name y py] kt pt] (.Tuple [a, b] k2 pt2) X.env = pure none)
    (hpa : ∀ X : Cx, ∀ t u : TE, PE X a t → PE X b u → PA X [a, b] (tCons t (tCons u tNil)))
    (ha : EE S a ρ ms r1 ms1) (h1 : frz r1 = some d1) (hb : EEp S b ρ ms1 (.new ds)) (n : Nat) (hn : ms1.length = n) :
    SS S (.Assign [.Tuple [.Name x px, .Name y py] kt pt] (.Tuple [a, b] k2 pt2) pos) ρ ms (.nx ((ρ.set i (.dat d1)).set j (.mu n)) (ms1 ++ [ds])) :=
  .of (ts := tAsg (tTup (tCons (cE S a) (tCons (cE S b) tNil))) (gTup S.K 2 (gCons (gName i) (gCons (gName j) gNil))))
    (fun X hX => by
      have h := ps_asg (pos := pos) (pe_tup (x1 := k2) (pos := pt2) (hpa X _ _ (pe_c hX a) (pe_c hX b))) (pg_tup (k := kt) (pos := pt) (n := 2) hX.calm (pgs_cons (pg_name (pos := px) (by rw [hX.n]; exact hN) (by rw [hX.n]; exact hi) (hX.loc hx) (hX.hf hfx)) (pgs_cons (pg_name (pos := py) (by rw [hX.n]; exact hN) (by rw [hX.n]; exact hj) (hX.loc hy) (hX.hf hfy)) pgs_nil))) (hs _) (hw X hX)
      rw [hX.k] at h; exact h) fun as σ H En s en k =>
    ha as σ H _ s en fun v H1 k1 s1 q1 => hb as σ H1 _ s1 (en.kp k1) fun u H2 k2 s2 q2 => by
      refine ⟨by show 2 ≤ sizeLine; decide, fun q hq => ?_⟩
      obtain ⟨p, xs, rfl, hp0, np, hp, ra⟩ := q2
      have kn : Kp (fun _ => False) H2 (upd H2 q (.tup [v, .ref p])) := .new hq
      refine ⟨q, _, rfl, .inl (.inl upd_same), rfl, v, _, rfl, .ref p, _, rfl, rfl, ?_⟩
      have kk : Kp (fun _ => False) H1 (upd H2 q (.tup [v, .ref p])) := k2.trans kn
      obtain ⟨g1, g2, g3, g4⟩ := open_ok (ds := ds) s1 (en.kp k1) (kk.f) (s2.new hq) hp0 np (kn p _ (fun z => z) hp) (ra.keep kn) (s1.guard kk hp0) hn
      refine k (as ++ [p]) _ _ (Gr.trans s s1 (.of k1) g1) g2 ((g3.setD (R.chg (as := as) (fun b o _ e => kk b o (fun z => z) e) (fun q' z => ?_) _ _ (q1.frz h1))).setM g4)
      rcases List.mem_append.mp z with z | z
      · exact .inl z
      · rw [List.mem_singleton.mp z]; exact .inr hp0
theorem ee_star2 {α : Type} (f : α → D) {l1 l2 l' : List α} {p1 p2 : Pos} (h1 : EE S a ρ ms (.dat (.tuple (l1.map f))) ms1) (h2 : EE S b ρ ms1 (.dat (.tuple (l2.map f))) ms2) (h : catO l1 l2 = some l') :
    EE S (.List [.Starred a p1, .Starred b p2] pos) ρ ms (.new (l'.map f)) ms2 := by
  obtain ⟨hz, rfl⟩ := catO_some h
  refine ee_lst (ea_starT _ h1 (ea_starT _ h2 ea_nil)) ?_ (by rw [List.length_map, List.length_append]; exact hz)
  rw [frzA_dat (frzA_dat (rs := []) (ds2 := []) rfl), List.append_nil, List.map_append]
theorem MD_law {d : Dice} : MD (ms ++ [[]]) ms.length d ++ [] = ms ++ [eDice d] := by
  rw [List.append_nil]
  unfold MD
  rw [List.set_append_right _ _ (Nat.le_refl _), Nat.sub_self]; rfl
theorem law_hk : ms.length < (ms ++ [[]] : MS).length := by simp
theorem hm_law {n0 : Nat} {T : Nat → Bool} (hn : n0 = ms.length) (ht : ∀ j, T j = false) : ∀ (j : Nat) (es : List D), ms[j]? = some es → es.all flatD = true ∨ (ms[j]? = some es ∧ ¬ (n0 ≤ j ∨ T j = true)) := fun j es h => by
  have hj := (List.getElem?_eq_some_iff.mp h).1
  exact .inr ⟨h, fun z => by
    rcases z with z | z
    · omega
    · rw [ht j] at z; cases z⟩
theorem ex_loop (h : SS S st ρ ms o) (k : SS S st ρ ms o → Ex S (st :: sts) ρ ms Φ) : Ex S (st :: sts) ρ ms Φ := k h
end
end Abs
namespace Abs
open PySem PySem.Spec PyProof.Rows L2
/-! ### lists that are handed down in pairs and changed -/
def setO {α : Type} (l : List α) (i : Int) (v : α) : Option (List α) := (ixN l.length i).map fun m => l.set m v
theorem setO_some {α : Type} {l l' : List α} {i : Int} {v : α} (h : setO l i v = some l') : ∃ m, ixN l.length i = some m ∧ l' = l.set m v := by
  unfold setO at h
  cases q : ixN l.length i with
  | none => rw [q] at h; cases h
  | some m => rw [q] at h; exact ⟨m, rfl, (someS h).symm⟩
def M2 (mc : MS) (k1 k2 : Nat) (x y : List D) : MS := (mc.set k1 x).set k2 y
section
variable {S : Sx} {K : PySem.W.Frag} {as as1 as2 : List Addr} {H H1 H2 H' : Hp} {ms ms1 ms2 ms3 ms' mc tl : MS} {ρ ρ1 ρ2 ρ' : Env'} {σ : L2.St} {e a b c tg iter elt ox ix o1 i1 o2 i2 : Expr} {es ifs rest : List Expr} {r r' r1 r2 r3 : Rs} {rs : List Rs} {o : Out} {st : Stmt} {bd sts p q : List Stmt} {pos px ap ps : Pos} {t u : Bool} {i j : Int} {x y z : Str} {d d1 d2 d3 : D} {ds ds1 ds2 : List D} {Φ : Out → Prop} {k k1 k2 : Nat} {v w v' : List D}
theorem tch1 {k0 : Nat} : ((Rs.mu k0 :: Rs.mu k :: rs).any fun r => match r with | .mu i => i == k | _ => false) = true := by simp
theorem M2_len : (M2 mc k1 k2 v w).length = mc.length := by unfold M2; simp
theorem M2_at1 (hk : k1 < mc.length) (hn : k1 ≠ k2) : (M2 mc k1 k2 v w)[k1]? = some v := by
  unfold M2
  rw [List.getElem?_set_ne (Ne.symm hn), List.getElem?_set_self hk]
theorem M2_at2 (hk : k2 < mc.length) : (M2 mc k1 k2 v w)[k2]? = some w := by
  unfold M2
  exact List.getElem?_set_self (by simpa using hk)
theorem M2_set1 (hn : k1 ≠ k2) : (M2 mc k1 k2 v w).set k1 v' = M2 mc k1 k2 v' w := by
  unfold M2
  rw [List.set_comm _ _ (Ne.symm hn), List.set_set]
theorem M2_set2 : (M2 mc k1 k2 v w).set k2 v' = M2 mc k1 k2 v v' := by
  unfold M2
  rw [List.set_set]
theorem M2_loc : ms ++ [v, w] = M2 (ms ++ [[], []]) (ms.length + 0) (ms.length + 1) v w := by
  unfold M2
  rw [List.set_append_right _ _ (by omega), List.set_append_right _ _ (by omega)]
  simp
theorem set_map {α : Type} (f : α → D) (l : List α) (m : Nat) (y : α) : (l.map f).set m (f y) = (l.set m y).map f := (List.map_set (f := f) (l := l) (i := m) (a := y)).symm
/-- x[i] = e, by what is then there -/
theorem ss_setO {α : Type} (f : α → D) {l l' : List α} {y : α} {u : Int} (hs : ∀ env, swapsWithSole [.Subscript ox ix ps] e pos.line env = pure false) (hw : ∀ env, swappedStores [.Subscript ox ix ps] e env = pure none) (h1 : ∀ env, (assignEach [.Subscript ox ix ps] env).map (·.2) = [assign (.Subscript ox ix ps) env])
    (hsub : ∀ X : Cx, ∀ to ti : TE, PE X ox to → PE X ix ti → PG X (.Subscript ox ix ps) (gSub to ti rSetL)) (he : EE S e ρ ms r ms1) (hr : frz r = some (f y)) (ho : EE S ox ρ ms1 (.mu k) ms1) (hi : EE S ix ρ ms1 (.dat (.int u)) ms1) (hk : ms1[k]? = some (l.map f)) (h : setO l u y = some l') (ht : S.n0 ≤ k ∨ S.tch k = true) (hq : ms1.set k (l'.map f) = ms2) :
    SS S (.Assign [.Subscript ox ix ps] e pos) ρ ms (.nx ρ ms2) := by
  obtain ⟨m, hm, rfl⟩ := setO_some h
  have w := ss_setItem hs hw h1 hsub he hr ho hi hk (by rw [List.length_map]; exact hm) ht
  rw [set_map, hq] at w
  exact w
/-- x[i], y[j] = a, b -/
theorem ss_sub2 {α β : Type} (f : α → D) (g : β → D) {l l' : List α} {m m' : List β} {y1 : α} {y2 : β} {u1 u2 : Int} {p1 p2 pt : Pos} {kt kv : Nat} {pv : Pos}
    (hs : ∀ env, swapsWithSole [.Tuple [.Subscript o1 i1 p1, .Subscript o2 i2 p2] kt pt] (.Tuple [a, b] kv pv) pos.line env = pure false) (hw : ∀ X, InS S X → swappedStores [.Tuple [.Subscript o1 i1 p1, .Subscript o2 i2 p2] kt pt] (.Tuple [a, b] kv pv) X.env = pure none)
    (hsub1 : ∀ X : Cx, ∀ to ti : TE, PE X o1 to → PE X i1 ti → PG X (.Subscript o1 i1 p1) (gSub to ti rSetL)) (hsub2 : ∀ X : Cx, ∀ to ti : TE, PE X o2 to → PE X i2 ti → PG X (.Subscript o2 i2 p2) (gSub to ti rSetL))
    (ha : EA S [a, b] ρ ms [r1, r2] ms1) (h1 : frz r1 = some (f y1)) (h2 : frz r2 = some (g y2))
    (ho1 : EE S o1 ρ ms1 (.mu k1) ms1) (hi1 : EE S i1 ρ ms1 (.dat (.int u1)) ms1) (hk1 : ms1[k1]? = some (l.map f)) (hl1 : setO l u1 y1 = some l') (ht1 : S.n0 ≤ k1 ∨ S.tch k1 = true) (hq1 : ms1.set k1 (l'.map f) = ms2)
    (ho2 : EE S o2 ρ ms2 (.mu k2) ms2) (hi2 : EE S i2 ρ ms2 (.dat (.int u2)) ms2) (hk2 : ms2[k2]? = some (m.map g)) (hl2 : setO m u2 y2 = some m') (ht2 : S.n0 ≤ k2 ∨ S.tch k2 = true) (hq2 : ms2.set k2 (m'.map g) = ms3) :
    SS S (.Assign [.Tuple [.Subscript o1 i1 p1, .Subscript o2 i2 p2] kt pt] (.Tuple [a, b] kv pv) pos) ρ ms (.nx ρ ms3) := by
  obtain ⟨n1, hm1, rfl⟩ := setO_some hl1
  obtain ⟨n2, hm2, rfl⟩ := setO_some hl2
  refine .of (ts := tAsg (tTup (cA S [a, b])) (gTup S.K 2 (gCons (gSub (cE S o1) (cE S i1) rSetL) (gCons (gSub (cE S o2) (cE S i2) rSetL) gNil))))
    (fun X hX => by
      have h := ps_asg (pos := pos) (pe_tup (x1 := kv) (pos := pv) (pa_c hX [a, b])) (pg_tup (k := kt) (pos := pt) (n := 2) hX.calm (pgs_cons (hsub1 X _ _ (pe_c hX o1) (pe_c hX i1)) (pgs_cons (hsub2 X _ _ (pe_c hX o2) (pe_c hX i2)) pgs_nil))) (hs _) (hw X hX)
      rw [hX.k] at h; exact h) fun as σ H En s en k =>
    ha as σ H _ s en fun vs H1 k1' s1 q1 => ?_
  obtain ⟨v, u, rfl, qa, qb⟩ := rs2 q1
  have qa := qa.frz h1
  have qb := qb.frz h2
  refine ⟨by show 2 ≤ sizeLine; decide, fun q hq => ?_⟩
  have kn : Kp (fun _ => False) H1 (upd H1 q (.tup [v, u])) := .new hq
  have sN := s1.new (o := .tup [v, u]) hq
  refine ⟨q, _, rfl, .inl (.inl upd_same), rfl, v, _, rfl, ?_⟩
  have e0 := (en.kp k1').kp (S := S) (kn.f)
  refine ho1 as σ _ _ sN e0 fun w1 H2 kk2 s2 z1 => hi1 as σ H2 _ s2 (e0.kp kk2) fun w2 H3 kk3 s3 z2 => ?_
  obtain ⟨ad, rfl, had⟩ := z1
  obtain ⟨xs, x1, x2⟩ := s3.2.2 k1 ad _ had hk1
  have qa3 : R S.K as H3 v (f y1) := (((R.kp (S := S) kn.f qa).kp kk2).kp kk3)
  have qb3 : R S.K as H3 u (g y2) := (((R.kp (S := S) kn.f qb).kp kk2).kp kk3)
  refine ⟨ad, xs, u1, n1, rfl, z2.int, x1, by rw [x2.length, List.length_map]; exact hm1, u, [], rfl, ?_⟩
  have m4 : Kp (S.T as) H3 (upd H3 ad (.lst (xs.set n1 v))) := .mut ⟨k1, had, ht1⟩
  have s4 : SR S.K as (upd H3 ad (.lst (xs.set n1 v))) ms2 := by
    have h := s3.set had (RA.set n1 x2 qa3)
    rw [set_map, hq1] at h
    exact h
  have e4 := ((e0.kp kk2).kp kk3).kp m4
  refine ho2 as σ _ _ s4 e4 fun w3 H5 kk5 s5 z3 => hi2 as σ H5 _ s5 (e4.kp kk5) fun w4 H6 kk6 s6 z4 => ?_
  obtain ⟨bd, rfl, hbd⟩ := z3
  obtain ⟨ys, y1', y2'⟩ := s6.2.2 k2 bd _ hbd hk2
  have qb6 : R S.K as H6 u (g y2) := ((qb3.kp m4).kp kk5).kp kk6
  refine ⟨bd, ys, u2, n2, rfl, z4.int, y1', by rw [y2'.length, List.length_map]; exact hm2, rfl, ?_⟩
  have m7 : Kp (S.T as) H6 (upd H6 bd (.lst (ys.set n2 u))) := .mut ⟨k2, hbd, ht2⟩
  have s7 : SR S.K as (upd H6 bd (.lst (ys.set n2 u))) ms3 := by
    have h := s6.set hbd (RA.set n2 y2' qb6)
    rw [set_map, hq2] at h
    exact h
  refine k as σ _ (.of ?_) s7 (((e4.kp kk5).kp kk6).kp m7)
  exact ((((((k1'.trans kn.f).trans kk2).trans kk3).trans m4).trans kk5).trans kk6).trans m7
end
end Abs
namespace Abs
open PySem PySem.Spec PyProof.Rows L2
/-- {k: v, ..}[t] of ints -/
def dget (kvs : List (Int × Int)) (t : Int) : Option Int := match valV (mergeK [] (kvs.map fun p => ((Sum.inl p.1 : Key), V.int p.2))) (Sum.inl t) with
  | some (.int v) => some v
  | _ => none
def repO {α : Type} (l : List α) (n : Int) : Option (List α) := if -(2 ^ 63) ≤ n ∧ n < 2 ^ 63 ∧ l.length * n.toNat ≤ sizeLine then some (List.replicate n.toNat l).flatten else none
section
variable {S : Sx} {K : PySem.W.Frag} {as as1 as2 : List Addr} {H H1 H2 H' : Hp} {ms ms1 ms2 ms3 ms' mc tl : MS} {ρ ρ1 ρ2 ρ' : Env'} {σ : L2.St} {e a b c tg iter elt ox ix o1 i1 o2 i2 : Expr} {es ifs rest : List Expr} {r r' r1 r2 r3 : Rs} {rs : List Rs} {o : Out} {st : Stmt} {bd sts p q : List Stmt} {pos px ap ps dpos : Pos} {t u : Bool} {i j : Int} {x y z : Str} {d d1 d2 d3 : D} {ds ds1 ds2 : List D} {Φ : Out → Prop} {k k1 k2 : Nat}
theorem SR.kpF (s : SR K as H ms) (k : Kp (fun _ => False) H H') : SR K as H' ms := ⟨s.1, s.2.1, fun kk a ds e1 e2 => by
  obtain ⟨xs, z1, z2⟩ := s.2.2 kk a ds e1 e2
  exact ⟨xs, k a _ (fun z => z) z1, z2.keep k⟩⟩
theorem eep_neg (h : EEp S a ρ ms (.dat (.int i))) : EEp S (.UnaryOp .USub a pos) ρ ms (.dat (.int (-i))) := fun as σ H Q s en k =>
  ⟨_, fun X hX => pe_un un_neg (pe_c hX a), h as σ H _ s en fun v H1 k1 s1 q => ⟨i, q.int, k _ H1 k1 s1 rInt⟩⟩
def EPs (S : Sx) (kes : List (Option Expr)) (ves : List Expr) (kvs : List (Int × Int)) (ρ : Env') (ms : MS) : Prop := ∃ trs : List (TE × TE), (∀ X, InS S X → ∀ pos, PPs X pos kes ves trs) ∧ ∀ (as : List Addr) (σ : L2.St) (H : Hp) (Q : List (V × V) → Hp → Prop), SR S.K as H ms → EnvOk S.K as H σ ρ →
  (∀ H', Kp (fun _ => False) H H' → SR S.K as H' ms → Q (kvs.map fun p => (V.int p.1, V.int p.2)) H') → tPairs trs σ H Q
theorem eps_nil : EPs S [] [] [] ρ ms := ⟨[], fun _ _ _ => pps_nil, fun as σ H Q s en k => k H .refl s⟩
theorem eps_cons {kes : List (Option Expr)} {ves : List Expr} {kvs : List (Int × Int)} (hk : EEp S a ρ ms (.dat (.int i))) (hv : EEp S b ρ ms (.dat (.int j))) (hr : EPs S kes ves kvs ρ ms) : EPs S (some a :: kes) (b :: ves) ((i, j) :: kvs) ρ ms := by
  obtain ⟨trs, h1, h2⟩ := hr
  refine ⟨(cE S a, cE S b) :: trs, fun X hX pos => pps_cons (pe_c hX a) (pe_c hX b) (h1 X hX pos), fun as σ H Q s en k => ?_⟩
  refine hk as σ H _ s en fun v H1 k1 s1 q1 => hv as σ H1 _ s1 (en.kp (S := S) k1.f) fun w H2 k2 s2 q2 => h2 as σ H2 _ s2 (en.kp (S := S) (k1.trans k2).f) fun H3 k3 s3 => ?_
  have := k H3 ((k1.trans k2).trans k3) s3
  rw [q1.int, q2.int]
  exact this
theorem ee_dsub {kes : List (Option Expr)} {ves : List Expr} {kvs : List (Int × Int)} {v : Int} (hp : EPs S kes ves kvs ρ ms) (hi : EEp S ix ρ ms (.dat (.int i))) (h : dget kvs i = some v) (hl15 : kvs.length ≤ 15) (hall : kes.all (·.isSome) = true) (hl : kes.length = ves.length) (h0 : kes ≠ []) (h15 : kes.length ≤ 15) (hs : NoSl ix) :
    EE S (.Subscript (.Dict kes ves dpos) ix pos) ρ ms (.dat (.int v)) ms := by
  obtain ⟨trs, h1, h2⟩ := hp
  refine .of (te := tDGet (tDisp trs) (cE S ix)) (fun X hX => pe_dget (by have := hX.hu; omega) (pe_disp (h1 X hX dpos) hall hl h0 h15) (pe_c hX ix) hs) fun as σ H Q s en k p hp => ?_
  have kn : Kp (fun _ => False) H (upd H p (.dK [])) := .new hp
  refine h2 as σ _ _ (s.new hp) (en.kp (S := S) kn.f) fun H2 k2 s2 => ?_
  refine ⟨k2 p _ (fun z => z) upd_same, kvs.map fun q => ((Sum.inl q.1 : Key), V.int q.2), by rw [List.map_map]; rfl, by rw [List.length_map]; exact hl15, ?_⟩
  have k3 : Kp (fun _ => False) H (upd H2 p (.dK (mergeK [] (kvs.map fun q => ((Sum.inl q.1 : Key), V.int q.2))))) := fun b o _ e => by
    rw [upd_ne (ne_of_none e hp)]
    exact k2 b o (fun z => z) (kn b o (fun z => z) e)
  refine hi as σ _ _ (s.kpF k3) (en.kp (S := S) k3.f) fun w H4 k4 s4 q4 => ?_
  refine ⟨p, .int v, rfl, ?_, k _ H4 ((k3.trans k4).f) s4 rInt⟩
  rw [q4.int]
  have hd : valV (mergeK [] (kvs.map fun p => ((Sum.inl p.1 : Key), V.int p.2))) (Sum.inl i) = some (.int v) := by
    unfold dget at h
    split at h
    · rename_i w hw
      rw [hw, someS h]
    · cases h
  rw [← hd]
  exact DGet.k (k := Sum.inl i) (k4 p _ (fun z => z) upd_same)
theorem ee_rep {α : Type} (f : α → D) {l l' : List α} {n : Int} (ha : EE S a ρ ms (.new (l.map f)) ms1) (hb : EE S b ρ ms1 (.dat (.int n)) ms2) (h : repO l n = some l') : EE S (.BinOp a .Mult b pos) ρ ms (.new (l'.map f)) ms2 := by
  unfold repO at h
  split at h
  · rename_i c
    obtain ⟨c1, c2, c3⟩ := c
    cases (someS h : _ = l')
    refine ee_op (r := rRep) (fun X hX => op_rep) (fun as H0 H x y s q1 q2 Q k => ?_) ha hb
    obtain ⟨p, xs, rfl, n0, np, hp, ra⟩ := q1
    have ra1 := RA.sub (fun a z => List.mem_cons_of_mem _ z) ra
    refine ⟨p, n, xs, rfl, q2.int, hp, c1, c2, by rw [ra1.length, List.length_map]; exact c3, fun q hq => k _ _ (.new hq) (s.new hq) (.mkNew s .refl hq ?_)⟩
    have hrep : ∀ m : Nat, RA S.K as H (List.replicate m xs).flatten (((List.replicate m l).flatten).map f) := fun m => by
      induction m with
      | zero => exact RA.nil
      | succ m ih =>
        rw [List.replicate_succ, List.replicate_succ, List.flatten_cons, List.flatten_cons, List.map_append]
        exact ra1.app ih
    exact hrep _
  · cases h
/-- a, b = a list of one's own -/
theorem ss_unMu {elts : List Expr} {kk : Nat} {pt : Pos} {sl : List Nat} (hs : ∀ env, swapsWithSole [.Tuple elts kk pt] e pos.line env = pure false) (hw : ∀ X, InS S X → swappedStores [.Tuple elts kk pt] e X.env = pure none) (h1 : ∀ env, (assignEach [.Tuple elts kk pt] env).map (·.2) = [assign (.Tuple elts kk pt) env])
    (hn : ∀ env, (assignEach elts env).length = ds.length) (hst : ∀ env, (assignEach elts env).findIdx? (·.1) = none)
    (he : EE S e ρ ms (.mu k) ms1) (hk : ms1[k]? = some ds) (hg : EGs S elts ds ρ ρ' sl) : SS S (.Assign [.Tuple elts kk pt] e pos) ρ ms (.nx ρ' ms1) :=
  .of (ts := tAsg (cE S e) (gUnl S.K ds.length (cGs S elts))) (fun X hX => by
    have h := ps_asg (pos := pos) (pe_c hX e) (pg_unl (k := kk) (pos := pt) hX.calm (pgs_c hX elts) (hn _) (hst _)) (hs _) (hw X hX) (h1 _)
    rw [hX.k] at h; exact h) fun as σ H En s en kk' => he as σ H _ s en fun v H1 k1 s1 q1 => by
    obtain ⟨p, rfl, hp⟩ := q1
    obtain ⟨xs, z1, z2⟩ := s1.2.2 k p ds hp hk
    exact ⟨p, xs, rfl, .inl (.inl z1), z2.length, hg as σ H1 xs _ (en.kp k1) z2 fun σ' en' _ => kk' as σ' H1 (.of k1) s1 en'⟩
/-- x, y = [..], e: the second one may change what was handed down -/
theorem ss_par_odE {py pt : Pos} {kt kv pv} (i j : Nat) (hN : S.N.Nodup) (hi : S.N[i]? = some x) (hj : S.N[j]? = some y) (hij : i ≠ j) (hx : S.sc.names.lookup x = some .local) (hy : S.sc.names.lookup y = some .local)
    (hw : swOk S (.Tuple [.Name x px, .Name y py] kt pt) (.Tuple [a, b] kv pv) [x, y]) (hs : ∀ X : Cx, ∀ t u : TE, PE X a t → PE X b u → PA X [a, b] (tCons t (tCons u tNil)))
    (ha : EEp S a ρ ms (.new ds)) (hb : EE S b ρ ms (.dat d2) ms1) (h2 : flatD d2 = true) (n : Nat) (hn : ms1.length = n)
    (hm : ∀ (k : Nat) (es : List D), ms1[k]? = some es → es.all flatD = true ∨ (ms[k]? = some es ∧ ¬ (S.n0 ≤ k ∨ S.tch k = true))) :
    SS S (.Assign [.Tuple [.Name x px, .Name y py] kt pt] (.Tuple [a, b] kv pv) pos) ρ ms (.nx ((ρ.set i (.mu n)).set j (.dat d2)) (ms1 ++ [ds])) :=
  .of (fun X hX => ps_par hX.calm (by rw [hX.n]; exact hN) (by rw [hX.n]; exact hi) (by rw [hX.n]; exact hj) hij (by rw [hX.sc]; exact hx) (by rw [hX.sc]; exact hy) (hs X _ _ (pe_c hX a) (pe_c hX b)) (hw X hX)) fun as σ H En s en k =>
    ha as σ H _ s en fun v H1 k1 s1 q1 => hb as σ H1 _ s1 (en.kp (k1.f (T := S.T as))) fun u H2 k2 s2 q2 => by
      obtain ⟨p, xs, rfl, hp0, np, hp, ra⟩ := q1
      have kk : Kp (S.T as) H H2 := k1.f.trans k2
      have hp2 : H2 p = some (.lst xs) := k2 p _ (fun ⟨j, ej, _⟩ => np (List.mem_of_getElem? ej)) hp
      have ra2 : RA S.K (p :: as) H2 xs ds := RA.kq (k2.q.sub fun a z => List.mem_cons_of_mem _ z) ra
      obtain ⟨g1, g2, g3, g4⟩ := open_ok (ds := ds) s en kk s2 hp0 np hp2 ra2 (fun k' a es e1 e2 => by
        obtain ⟨ys, z1, z2⟩ := s2.2.2 k' a es e1 e2
        rcases hm k' es e2 with w | ⟨w, nt⟩
        · exact ⟨ys, z1, RA.flat w z2⟩
        · obtain ⟨zs, w1, w2⟩ := s.2.2 k' a es e1 w
          refine ⟨zs, kk a _ (fun ⟨j, ej, tj⟩ => ?_) w1, RA.chg kk.q (fun q z => (List.mem_cons.mp z).elim (fun e => .inr (by rw [e]; exact hp0)) .inl) _ _ w2⟩
          have e : j = k' := by
            have h1 := List.getElem?_eq_some_iff.mp ej
            have h2 := List.getElem?_eq_some_iff.mp e1
            exact (List.getElem_inj s.1).mp (h1.2.trans h2.2.symm)
          exact nt (e ▸ tj)) hn
      exact ⟨.ref p, u, rfl, k (as ++ [p]) _ H2 g1 g2 ((g3.setM g4).setD (R.flat _ h2 q2))⟩
end
end Abs
namespace Abs
open PySem PySem.Spec PyProof.Rows L2
section
variable {S : Sx} {ms ms1 ms2 : MS} {ρ : Env'} {a b : Expr} {pos : Pos} {i : Int}
theorem op2_notInI {ns : List Int} : Op2 S (rIn S.K true) (.dat (.int i)) (.dat (.tuple (ns.map .int))) ms (.dat (.bool (!decide (i ∈ ns)))) := fun as H0 H x y s h1 h2 Q k => by
  obtain ⟨p, xs, rfl, hq, ra⟩ := h2.tup
  rw [ra.ints] at hq
  refine ⟨p, _, rfl, .inr hq, by rw [h1.int]; rfl, by simp [flatV], ?_⟩
  rw [h1.int, if_pos rfl, inV_int]
  exact k _ H .refl s rBool
theorem ee_notInI {ns : List Int} (hm : behindInMarks .NotIn b = false) (ha : EE S a ρ ms (.dat (.int i)) ms1) (hb : EE S b ρ ms1 (.dat (.tuple (ns.map .int))) ms2) : EE S (.Compare a [.NotIn] [b] pos) ρ ms (.dat (.bool (!decide (i ∈ ns)))) ms2 :=
  ee_cmp (fun X hX => by have h := op_notIn_seq (X := X); rw [hX.k] at h; exact h) hm op2_notInI ha hb
theorem et_notInI {ns : List Int} (hm : behindInMarks .NotIn b = false) (ha : EE S a ρ ms (.dat (.int i)) ms1) (hb : EE S b ρ ms1 (.dat (.tuple (ns.map .int))) ms2) : ET S (.Compare a [.NotIn] [b] pos) ρ ms (!decide (i ∈ ns)) ms2 :=
  et_cmp (fun X hX => by have h := op_notIn_seq (X := X); rw [hX.k] at h; exact h) hm op2_notInI ha hb
end
/-- [m x y for x in xs for y in f x] -/
def map2O {α β γ : Type} (f : α → Option (List β)) (m : α → β → Option γ) : List α → Option (List γ)
  | [] => some []
  | x :: xs => (f x).bind fun bs => (mapO (m x) bs).bind fun zs => (map2O f m xs).map fun r => zs ++ r
section
variable {S : Sx} {K : PySem.W.Frag} {as : List Addr} {H H1 H2 H' : Hp} {ms ms1 : MS} {ρ ρ1 : Env'} {σ : L2.St} {e tg iter elt tg1 iter1 : Expr} {pos : Pos}
/-- what a turn of the outer clause asks -/
def Lc2Turn {α β γ : Type} (S : Sx) (tg iter1 tg1 elt : Expr) (ρ : Env') (vs vs1 : List Nat) (ms : MS) (emb : α → D) (emb1 : β → D) (emb' : γ → D) (m : α → β → Option γ) (x : α) (bs : List β) : Prop :=
  ∃ (ρx : Env') (sl : List Nat), (∀ i ∈ sl, i ∈ vs) ∧ EG S tg (emb x) ρ ρx sl ∧ ∃ G1 : MS → Prop, IT S tg1 iter1 ρx ms (bs.map emb1) ms G1 ∧ (∀ l, G1 (ms.dropLast ++ [l])) ∧
    ∀ y ∈ bs, ∀ z l, m x y = some z → ∃ (ρy : Env') (sl1 : List Nat), (∀ i ∈ sl1, i ∈ vs1) ∧ EG S tg1 (emb1 y) (wipeE ρx vs1) ρy sl1 ∧ ∃ r, EE S elt ρy (ms.dropLast ++ [l]) r (ms.dropLast ++ [l]) ∧ frz r = some (emb' z)
theorem evt_lc2 {α β γ : Type} {scope : Scope} {vs vs1 : List Nat} (emb : α → D) (emb1 : β → D) (emb' : γ → D) (xs : List α) (f : α → Option (List β)) (m : α → β → Option γ) {G : MS → Prop} {ys : List γ}
    (hi : IT S tg iter ρ ms (xs.map emb) ms G) (hG : ∀ ex, G (ms ++ ex)) (hv1 : ∀ i ∈ vs1, i ∈ vs)
    (hb : ∀ x ∈ xs, ∀ bs l, f x = some bs → Lc2Turn (S.blk scope) tg iter1 tg1 elt (wipeE ρ vs) vs vs1 (ms ++ [l]) emb emb1 emb' m x bs)
    (hf : map2O f m xs = some ys) (hz : ys.length ≤ sizeLine) (hn0 : S.n0 ≤ ms.length) :
    EVt S (tLc2 (cI S tg iter) (cG (S.blk scope) tg) tYes (cI (S.blk scope) tg1 iter1) (cG (S.blk scope) tg1) tYes (cE (S.blk scope) elt) vs vs1) ρ ms (.new (ys.map emb')) ms := fun as σ H Q s en k => hi as σ H _ s en fun J H1 k1 s1' w0 Dl hD => by
  have hal : as.length = ms.length := s1'.2.1
  have hDs : ∀ q ∈ [Dl], H1 q = none := fun q z => by rw [List.mem_singleton.mp z]; exact hD
  have w := w0 [Dl] (upd H1 Dl (.lst [])) hDs (.new hD)
  have hDas : Dl ∉ as := s1'.notin hD
  have eD : (as ++ [Dl])[ms.length]? = some Dl := by
    rw [List.getElem?_append_right (by omega), hal, Nat.sub_self]; rfl
  have eM : ∀ l : List D, (ms ++ [l])[ms.length]? = some l := fun l => by
    rw [List.getElem?_append_right (Nat.le_refl _), Nat.sub_self]; rfl
  have eDrop : ∀ l : List D, (ms ++ [l]).dropLast = ms := fun l => by simp
  let TT := S.T (as ++ [Dl])
  refine ⟨fun i mm H' => mm = xs.length - i ∧ i ≤ xs.length ∧ ∃ (acc rest : List γ), map2O f m (xs.drop i) = some rest ∧ acc ++ rest = ys ∧ Kp (S.T (as ++ [Dl])) (upd H1 Dl (.lst [])) H' ∧ SR S.K (as ++ [Dl]) H' (ms ++ [acc.map emb']) ∧ EnvOk S.K (as ++ [Dl]) H' (L2.wipe σ vs) (wipeE ρ vs),
    ⟨xs.length, by simp, Nat.zero_le _, [], ys, by simpa using hf, by simp, .refl, ?_, ?_⟩, ?_⟩
  · exact SR.open (s1'.new hD) hDas upd_same RA.nil fun k' a' es e1 e2 => by
      obtain ⟨zs, z1, z2⟩ := s1'.2.2 k' a' es e1 e2
      exact ⟨zs, by rw [upd_ne (ne_of_none z1 hD)]; exact z1, RA.chg (.new hD) (fun q z => (List.mem_cons.mp z).elim (fun e => .inr (by rw [e]; exact hD)) .inl) _ _ z2⟩
  · exact EnvOk.wipe ((en.kp k1).gr (.new hD) ⟨[Dl], rfl, hDs⟩) vs
  · rintro i mm H' ⟨rfl, hi', acc, rest, hf', hys, k2, s2, en2⟩
    have kH : Kp (S.T as) H1 H' := by
      refine Gr.tsub hDs (fun b o nb e => k2 b o nb ?_)
      rw [upd_ne (ne_of_none e hD)]; exact e
    by_cases hlt : i < xs.length
    · refine .inr ⟨w.go i H' _ (by simpa using hlt) k2 s2 (hG _), ?_⟩
      have hd : xs.drop i = xs[i] :: xs.drop (i + 1) := List.drop_eq_getElem_cons hlt
      rw [hd] at hf'
      unfold map2O at hf'
      obtain ⟨bs, hbs, hf'⟩ := bindS hf'
      obtain ⟨zs, hzs, hf'⟩ := bindS hf'
      cases hr : map2O f m (xs.drop (i + 1)) with
      | none => rw [hr] at hf'; cases hf'
      | some rest' =>
        rw [hr] at hf'
        cases (someS hf' : zs ++ rest' = rest)
        refine ⟨fun H3 => ∃ (acc rest : List γ), map2O f m (xs.drop (i + 1)) = some rest ∧ acc ++ rest = ys ∧ Kp (S.T (as ++ [Dl])) (upd H1 Dl (.lst [])) H3 ∧ SR S.K (as ++ [Dl]) H3 (ms ++ [acc.map emb']) ∧ EnvOk S.K (as ++ [Dl]) H3 (L2.wipe σ vs) (wipeE ρ vs),
          fun H3 h3 => ⟨xs.length - (i + 1), by omega, rfl, hlt, h3⟩, fun v H2 hy => ?_⟩
        obtain ⟨k3, s3, d, hd1, hd2⟩ := w.yld i H' _ v H2 (by simpa using hlt) k2 s2 (hG _) hy
        have hde : d = emb xs[i] := by
          rw [List.getElem?_map, List.getElem?_eq_getElem hlt] at hd1
          exact (Option.some.inj hd1).symm
        rw [hde] at hd2
        obtain ⟨ρx, sl, hsl, eg, G1, it1, hG1, hin⟩ := hb xs[i] (List.getElem_mem hlt) bs (acc.map emb') hbs
        simp only [eDrop] at hG1 hin
        have en3 : EnvOk S.K (as ++ [Dl]) H2 (L2.wipe σ vs) (wipeE ρ vs) := en2.kp (S := S) k3.f
        refine eg (as ++ [Dl]) (L2.wipe σ vs) H2 v _ en3 hd2 fun σ4 en4 hbut => ⟨hbut.wipe hsl, ?_⟩
        unfold tYes
        simp only [if_true]
        refine it1 (as ++ [Dl]) σ4 H2 _ s3 en4 fun J1 H5 k5 s5 w5 => ?_
        have k5' : Kp (S.T (as ++ [Dl])) H2 H5 := k5
        have w1 := w5 [] H5 (fun _ z => by simp at z) .refl
        rw [List.append_nil] at w1
        have kk : Kp (S.T (as ++ [Dl])) (upd H1 Dl (.lst [])) H5 := (k2.trans k3.f).trans k5'
        refine ⟨fun j k H6 => k = bs.length - j ∧ j ≤ bs.length ∧ ∃ (acc1 zs1 : List γ), mapO (m xs[i]) (bs.drop j) = some zs1 ∧ acc1 ++ (zs1 ++ rest') = ys ∧ Kp (S.T (as ++ [Dl])) H5 H6 ∧ SR S.K (as ++ [Dl]) H6 (ms ++ [acc1.map emb']) ∧ EnvOk S.K (as ++ [Dl]) H6 (L2.wipe σ4 vs1) (wipeE ρx vs1),
          ⟨bs.length, by simp, Nat.zero_le _, acc, zs, by simpa using hzs, hys, .refl, s5, EnvOk.wipe (en4.kp (S := S) k5') vs1⟩, ?_⟩
        rintro j k6 H6 ⟨rfl, hj', acc1, zs1, hz1, hys1, k7, s7, en7⟩
        by_cases hjl : j < bs.length
        · refine .inr ⟨w1.go j H6 _ (by simpa using hjl) k7 s7 (hG1 _), ?_⟩
          have hd2 : bs.drop j = bs[j] :: bs.drop (j + 1) := List.drop_eq_getElem_cons hjl
          rw [hd2] at hz1
          unfold mapO at hz1
          obtain ⟨z0, hz0, hz1⟩ := bindS hz1
          cases hr2 : mapO (m xs[i]) (bs.drop (j + 1)) with
          | none => rw [hr2] at hz1; cases hz1
          | some zs2 =>
            rw [hr2] at hz1
            cases (someS hz1 : z0 :: zs2 = zs1)
            refine ⟨fun H8 => ∃ (acc1 zs1 : List γ), mapO (m xs[i]) (bs.drop (j + 1)) = some zs1 ∧ acc1 ++ (zs1 ++ rest') = ys ∧ Kp (S.T (as ++ [Dl])) H5 H8 ∧ SR S.K (as ++ [Dl]) H8 (ms ++ [acc1.map emb']) ∧ EnvOk S.K (as ++ [Dl]) H8 (L2.wipe σ4 vs1) (wipeE ρx vs1),
              fun H8 h8 => ⟨bs.length - (j + 1), by omega, rfl, hjl, h8⟩, fun v2 H8 hy2 => ?_⟩
            obtain ⟨k8, s8, d2, hd3, hd4⟩ := w1.yld j H6 _ v2 H8 (by simpa using hjl) k7 s7 (hG1 _) hy2
            have hde2 : d2 = emb1 bs[j] := by
              rw [List.getElem?_map, List.getElem?_eq_getElem hjl] at hd3
              exact (Option.some.inj hd3).symm
            rw [hde2] at hd4
            obtain ⟨ρy, sl1, hsl1, eg1, r, he, hr'⟩ := hin bs[j] (List.getElem_mem hjl) z0 (acc1.map emb') hz0
            have en8 : EnvOk S.K (as ++ [Dl]) H8 (L2.wipe σ4 vs1) (wipeE ρx vs1) := en7.kp (S := S) k8.f
            refine eg1 (as ++ [Dl]) (L2.wipe σ4 vs1) H8 v2 _ en8 hd4 fun σ9 en9 hbut9 => ⟨hbut9.wipe hsl1, ?_⟩
            simp only [if_true]
            refine he (as ++ [Dl]) σ9 H8 _ s8 en9 fun v10 H10 k10 s10 q10 => ?_
            have k10' : Kp (S.T (as ++ [Dl])) H8 H10 := k10
            obtain ⟨ws, z1, z2⟩ := s10.2.2 ms.length Dl _ eD (eM _)
            refine ⟨ws, z1, ?_, acc1 ++ [z0], zs2, hr2, by simpa using hys1, ((k7.trans k8.f).trans k10').trans (.mut ⟨ms.length, eD, .inl hn0⟩), ?_, (en8.kp (S := S) k10').kp (S := S) (.mut ⟨ms.length, eD, .inl hn0⟩)⟩
            · have hlen : ys.length = acc1.length + ((zs2.length + 1) + rest'.length) := by rw [← hys1]; simp; omega
              rw [z2.length, List.length_map]; omega
            · have h7 := s10.set eD (z2.app (RA.cons (q10.frz hr') RA.nil))
              have e8 : (ms ++ [acc1.map emb']).set ms.length (acc1.map emb' ++ [emb' z0]) = ms ++ [(acc1 ++ [z0]).map emb'] := by
                rw [List.set_append_right _ _ (Nat.le_refl _), Nat.sub_self]
                simp
              rw [e8] at h7
              exact h7
        · have e : j = bs.length := by omega
          subst e
          rw [List.drop_length] at hz1
          unfold mapO at hz1
          cases (someS hz1 : [] = zs1)
          refine .inl ⟨by have := w1.stop H6 _ k7 s7 (hG1 _); rw [List.length_map] at this; exact this, acc1, rest', hr, by simpa using hys1, kk.trans k7, s7, (en3.kp (S := S) k5').kp (S := S) k7⟩
    · have e : i = xs.length := by omega
      subst e
      rw [List.drop_length] at hf'
      unfold map2O at hf'
      cases (someS hf' : [] = rest)
      refine .inl ⟨by have := w.stop H' _ k2 s2 (hG _); rw [List.length_map] at this; exact this, ?_⟩
      obtain ⟨ws, z1, z2⟩ := s2.2.2 ms.length Dl _ eD (eM _)
      have hsc : SR S.K as H' ms := s2.close hal
      have hya : acc = ys := by rw [← hys]; simp
      subst hya
      exact k _ H' (k1.trans kH) hsc ⟨Dl, ws, rfl, fresh_back' s1' k1 hD, hDas, z1, RA.sub (fun q z => by
        rcases List.mem_cons.mp z with z | z
        · rw [z]; simp
        · exact List.mem_append_left _ z) z2⟩
theorem ee_lc2P {α β γ : Type} {scope : Scope} (own : List (Str × Nat)) (vs1 : List Nat) (emb : α → D) (emb1 : β → D) (emb' : γ → D) (xs : List α) (f : α → Option (List β)) (m : α → β → Option γ) {G : MS → Prop} {ys : List γ}
    (hN : S.N.Nodup) (ok : BlkOk S.N S.sc scope own) (hv : ∀ i ∈ vs1, i ∈ own.map (·.2)) (hfs : ∀ env x, foldedSetIterable iter env x = pure x) (hfs1 : ∀ env x, foldedSetIterable iter1 env x = pure x) (hi : IT S tg iter ρ ms (xs.map emb) ms G) (hG : ∀ ex, G (ms ++ ex)) (hn0 : S.n0 ≤ ms.length)
    (hb : ∀ x ∈ xs, ∀ bs l, f x = some bs → Lc2Turn (S.blk scope) tg iter1 tg1 elt (wipeE ρ (own.map (·.2))) (own.map (·.2)) vs1 (ms ++ [l]) emb emb1 emb' m x bs)
    (hf : map2O f m xs = some ys) (hz : ys.length ≤ sizeLine) : EE S (.ListComp elt [⟨tg, iter, [], 0⟩, ⟨tg1, iter1, [], 0⟩] scope pos) ρ ms (.new (ys.map emb')) ms :=
  .of (fun X hX => pe_lc2 hX.calm (by rw [hX.n]; exact hN) (pi_c hX _ _) (by rw [hX.n, hX.sc]; exact ok) hv (fun s H C cl fp => pg_c (hX.blk scope s H C cl fp) _) (fun _ _ _ _ _ => pts_nil) (fun s H C cl fp => pi_c (hX.blk scope s H C cl fp) _ _) (fun s H C cl fp => pg_c (hX.blk scope s H C cl fp) _) (fun _ _ _ _ _ => pts_nil) (fun s H C cl fp => pe_c (hX.blk scope s H C cl fp) _) (hfs _) hfs1)
    (evt_lc2 emb emb1 emb' xs f m hi hG hv hb hf hz hn0)
theorem tch_only {k : Nat} {rs : List Rs} (h : ∀ r ∈ rs, ∀ j, r ≠ .mu j) : ∀ j, ((Rs.mu k :: rs).any fun r => match r with | .mu i => i == j | _ => false) = true → j = k := fun j hj => by
  rw [List.any_cons, Bool.or_eq_true] at hj
  rcases hj with hj | hj
  · have : k = j := by simpa using hj
    exact this.symm
  · obtain ⟨r, hr, q⟩ := List.any_eq_true.mp hj
    cases r with
    | mu i => exact absurd rfl (h _ hr i)
    | dat d => cases q
    | new d => cases q
    | scr d => cases q
    | ty d => cases q
/-- x = [elt for tg in iter] with dice -/
theorem ss_lcS {α β : Type} {scope : Scope} {kk : Nat} {mc tl : MS} {x : Str} {px epos : Pos} (i : Nat) (own : List (Str × Nat)) (emb : α → D) (emb' : β → D) (xs : List α) (m : α → Dice → Option (β × Dice)) {G : MS → Prop} {d0 : Dice} {q : List β × Dice}
    (hN : S.N.Nodup) (hx : S.N[i]? = some x) (hxl : S.sc.names.lookup x = some .local) (hsw : ∀ X, InS S X → swapsWith (.ListComp elt [⟨tg, iter, [], 0⟩] scope epos) (some (.Name x px)) pos.line X.env = pure true)
    (ok : BlkOk S.N S.sc scope own) (hfs : ∀ env x, foldedSetIterable iter env x = pure x) (hi : IT S tg iter ρ ms (xs.map emb) (MD mc kk d0 ++ tl) G) (hG : ∀ s ex, G ((MD mc kk s ++ tl) ++ ex)) (hn0 : S.n0 ≤ mc.length + tl.length)
    (hb : ∀ x ∈ xs, ∀ d y ex, m x d = some y → LcS (S.blk scope) tg elt (wipeE ρ (own.map (·.2))) (own.map (·.2)) mc kk (tl ++ ex) emb emb' x d y.1 y.2)
    (hf : mapS m xs d0 = some q) (hz : xs.length ≤ sizeLine) : SS S (.Assign [.Name x px] (.ListComp elt [⟨tg, iter, [], 0⟩] scope epos) pos) ρ ms (.nx (ρ.set i (.dat (.list (q.1.map emb')))) (MD mc kk q.2 ++ tl)) :=
  ss_setLc (τ := Dice) (s0 := d0) (s1 := q.2) (ys := q.1) i own emb emb' xs (fun x s => (m x s).map fun y => (some y.1, y.2)) (fun d => MD mc kk d ++ tl) (mc.length + tl.length) hN hx hxl hsw ok hfs hi (fun s ex => hG s ex) (fun _ => by rw [List.length_append, MD_len])
    (fun x hx s o s' ex h => turn_S (fun y => hb x hx s y ex) h) (mapS_fmL hf) hz hn0
end
end Abs
namespace Abs
open PySem PySem.Spec PyProof.Rows L2
/-- // and % by what is not 0 -/
def fdivO (i j : Int) : Option Int := if j ≠ 0 ∧ j.natAbs.log2 < 9000 then some (Int.fdiv i j) else none
def fmodO (i j : Int) : Option Int := if j ≠ 0 then some (Int.fmod i j) else none
def CFdW (_ j : Int) : Prop := j ≠ 0 ∧ j.natAbs.log2 < 9000
theorem op_fdivWN {X : Cx} : OpR X (binaryOp .FloorDiv) (rI CFdW fun i j => .int (i.fdiv j)) := opI fun _ _ _ _ _ _ _ hc q => floordiv_int hc.1 q (.inl (PyProof.noPylong_of_log2 hc.2))
section
variable {S : Sx} {ms ms1 ms2 mc tl : MS} {ρ : Env'} {a b : Expr} {pos : Pos} {i j k : Int}
theorem ee_fdivO (ha : EE S a ρ ms (.dat (.int i)) ms1) (hb : EE S b ρ ms1 (.dat (.int j)) ms2) (h : fdivO i j = some k) : EE S (.BinOp a .FloorDiv b pos) ρ ms (.dat (.int k)) ms2 := by
  unfold fdivO at h
  split at h
  · rename_i c
    cases (someS h : _ = k)
    exact ee_op (fun _ _ => op_fdivWN) (op2_I (C := CFdW) c) ha hb
  · cases h
theorem ee_fmodO (ha : EE S a ρ ms (.dat (.int i)) ms1) (hb : EE S b ρ ms1 (.dat (.int j)) ms2) (h : fmodO i j = some k) : EE S (.BinOp a .Mod b pos) ρ ms (.dat (.int k)) ms2 := by
  unfold fmodO at h
  split at h
  · rename_i c
    cases (someS h : _ = k)
    exact ee_op (fun _ _ => op_modN) (op2_I (C := fun _ j => j ≠ 0) c) ha hb
  · cases h
/-- what is handed down beside the dice is no list of one's own -/
def noMu : Rs → Bool
  | .mu _ => false
  | _ => true
theorem tch_nomu {k : Nat} {rs : List Rs} (h : rs.all noMu = true) : ∀ j, ((Rs.mu k :: rs).any fun r => match r with | .mu i => i == j | _ => false) = true → j = k :=
  tch_only fun r hr j e => by
    have := List.all_eq_true.mp h r hr
    rw [e] at this
    cases this
end
end Abs
namespace Abs
open PySem PySem.Spec PyProof.Rows L2
def topS (i : Nat) : Stmt := PySem.Challenge.pw_trueroom_k20_whole_words_of_shears.main.body.getD i (.Pass ⟨0, 0, 0, 0⟩)
structure Txt (K : PySem.W.Frag) (mg : Str → Option Value) : Prop where
  abs : mg "abs" = none
  all : mg "all" = none
  any : mg "any" = none
  bool : mg "bool" = none
  c_GREAT : ∃ t, mg "GREAT" = some (.int (999999999999999999999999999999999999999999999999999999999999) t)
  c_MOST_POINTS : ∃ t, mg "MOST_POINTS" = some (.int (40) t)
  c_MOVE : ∃ t, mg "MOVE" = some (.str (Str.ofString "move") t)
  c_UNLIKE : ∃ t, mg "UNLIKE" = some (.str (Str.ofString "unlike") t)
  int : mg "int" = none
  isinstance : mg "isinstance" = none
  len : mg "len" = none
  list : mg "list" = none
  max : mg "max" = none
  min : mg "min" = none
  range : mg "range" = none
  str : mg "str" = none
  tuple : mg "tuple" = none
  zip : mg "zip" = none
def e_t2ii : (Int × Int) → D := fun p => .tuple [(.int p.1), (.int p.2)]
def e_t2t2iit2ii : ((Int × Int) × (Int × Int)) → D := fun p => .tuple [(e_t2ii p.1), (e_t2ii p.2)]
def e_t2t2t2iit2iit2ii : (((Int × Int) × (Int × Int)) × (Int × Int)) → D := fun p => .tuple [(e_t2t2iit2ii p.1), (e_t2ii p.2)]
def e_t3iii : (Int × Int × Int) → D := fun p => .tuple [(.int p.1), (.int p.2.1), (.int p.2.2)]
def e_lt2t2t2iit2iit2ii : (List (((Int × Int) × (Int × Int)) × (Int × Int))) → D := fun l => .list (l.map e_t2t2t2iit2iit2ii)
def e_ut3iii : (List (Int × Int × Int)) → D := fun l => .tuple (l.map e_t3iii)
def e_t2t3iiit3iii : ((Int × Int × Int) × (Int × Int × Int)) → D := fun p => .tuple [(e_t3iii p.1), (e_t3iii p.2)]
def e_li : (List Int) → D := fun l => .list (l.map PyData.int)
def e_ui : (List Int) → D := fun l => .tuple (l.map PyData.int)
def e_uui : (List (List Int)) → D := fun l => .tuple (l.map e_ui)
def e_t2uuiuui : ((List (List Int)) × (List (List Int))) → D := fun p => .tuple [(e_uui p.1), (e_uui p.2)]
def e_t2st2t2t2iit2iit2ii : (Str × (((Int × Int) × (Int × Int)) × (Int × Int))) → D := fun p => .tuple [(.str p.1), (e_t2t2t2iit2iit2ii p.2)]
def e_t3suuiuui : (Str × (List (List Int)) × (List (List Int))) → D := fun p => .tuple [(.str p.1), (e_uui p.2.1), (e_uui p.2.2)]
def e_t3t3iiit3iiit3iii : ((Int × Int × Int) × (Int × Int × Int) × (Int × Int × Int)) → D := fun p => .tuple [(e_t3iii p.1), (e_t3iii p.2.1), (e_t3iii p.2.2)]
def e_t4iiii : (Int × Int × Int × Int) → D := fun p => .tuple [(.int p.1), (.int p.2.1), (.int p.2.2.1), (.int p.2.2.2)]
def e_t2t2t3iiit3iiii : (((Int × Int × Int) × (Int × Int × Int)) × Int) → D := fun p => .tuple [(e_t2t3iiit3iii p.1), (.int p.2)]
def e_t1i : Int → D := fun p => .tuple [(.int p)]
def e_t2t1it1i : (Int × Int) → D := fun p => .tuple [(e_t1i p.1), (e_t1i p.2)]
def e_v2t2iit2ii : ((Int × Int) × (Int × Int)) → D := fun p => .list [(e_t2ii p.1), (e_t2ii p.2)]
def e_t2v2t2iit2iit2ii : (((Int × Int) × (Int × Int)) × (Int × Int)) → D := fun p => .tuple [(e_v2t2iit2ii p.1), (e_t2ii p.2)]
def e_v2ii : (Int × Int) → D := fun p => .list [(.int p.1), (.int p.2)]
def e_t2t2t2iit2iiv2ii : (((Int × Int) × (Int × Int)) × (Int × Int)) → D := fun p => .tuple [(e_t2t2iit2ii p.1), (e_v2ii p.2)]
def e_t2t2t2iit2iit3iii : (((Int × Int) × (Int × Int)) × (Int × Int × Int)) → D := fun p => .tuple [(e_t2t2iit2ii p.1), (e_t3iii p.2)]
def e_t1t2t2iit2ii : ((Int × Int) × (Int × Int)) → D := fun p => .tuple [(e_t2t2iit2ii p)]
def e_v8t2t2t2iit2iit2iit2t2t2iit2iit2iit2t2t2iit2iit2iit2t2t2iit2iit2iit2v2t2iit2iit2iit2t2t2iit2iiv2iit2t2t2iit2iit3iiit1t2t2iit2ii : ((((Int × Int) × (Int × Int)) × (Int × Int)) × (((Int × Int) × (Int × Int)) × (Int × Int)) × (((Int × Int) × (Int × Int)) × (Int × Int)) × (((Int × Int) × (Int × Int)) × (Int × Int)) × (((Int × Int) × (Int × Int)) × (Int × Int)) × (((Int × Int) × (Int × Int)) × (Int × Int)) × (((Int × Int) × (Int × Int)) × (Int × Int × Int)) × ((Int × Int) × (Int × Int))) → D := fun p => .list [(e_t2t2t2iit2iit2ii p.1), (e_t2t2t2iit2iit2ii p.2.1), (e_t2t2t2iit2iit2ii p.2.2.1), (e_t2t2t2iit2iit2ii p.2.2.2.1), (e_t2v2t2iit2iit2ii p.2.2.2.2.1), (e_t2t2t2iit2iiv2ii p.2.2.2.2.2.1), (e_t2t2t2iit2iit3iii p.2.2.2.2.2.2.1), (e_t1t2t2iit2ii p.2.2.2.2.2.2.2)]
def e_t2bi : (Bool × Int) → D := fun p => .tuple [(.bool p.1), (.int p.2)]
def e_t2t2bit2ii : ((Bool × Int) × (Int × Int)) → D := fun p => .tuple [(e_t2bi p.1), (e_t2ii p.2)]
def e_t2t2t2bit2iit2ii : (((Bool × Int) × (Int × Int)) × (Int × Int)) → D := fun p => .tuple [(e_t2t2bit2ii p.1), (e_t2ii p.2)]
def e_t2t2t2iit2iit2bi : (((Int × Int) × (Int × Int)) × (Bool × Int)) → D := fun p => .tuple [(e_t2t2iit2ii p.1), (e_t2bi p.2)]
def e_t1t2ii : (Int × Int) → D := fun p => .tuple [(e_t2ii p)]
def e_t2t1t2iit2ii : ((Int × Int) × (Int × Int)) → D := fun p => .tuple [(e_t1t2ii p.1), (e_t2ii p.2)]
def e_t2t2t3iiit3iiit2ii : (((Int × Int × Int) × (Int × Int × Int)) × (Int × Int)) → D := fun p => .tuple [(e_t2t3iiit3iii p.1), (e_t2ii p.2)]
def e_t2t2iii : ((Int × Int) × Int) → D := fun p => .tuple [(e_t2ii p.1), (.int p.2)]
def e_t2t2t2iit2iit2t2iii : (((Int × Int) × (Int × Int)) × ((Int × Int) × Int)) → D := fun p => .tuple [(e_t2t2iit2ii p.1), (e_t2t2iii p.2)]
def e_v16t2t2t2iit2iit2iit2t2t2iit2iit2iit2t2t2iit2iit2iit2t2t2iit2iit2iit2v2t2iit2iit2iit2t2t2iit2iiv2iit2t2t2iit2iit3iiit1t2t2iit2iit2t2t2bit2iit2iit2t2t2iit2iit2bit2t1t2iit2iit2t2t3iiit3iiit2iit2t2t2iit2iit2t2iiinst2t2t2iit2iit2ii : ((((Int × Int) × (Int × Int)) × (Int × Int)) × (((Int × Int) × (Int × Int)) × (Int × Int)) × (((Int × Int) × (Int × Int)) × (Int × Int)) × (((Int × Int) × (Int × Int)) × (Int × Int)) × (((Int × Int) × (Int × Int)) × (Int × Int)) × (((Int × Int) × (Int × Int)) × (Int × Int)) × (((Int × Int) × (Int × Int)) × (Int × Int × Int)) × ((Int × Int) × (Int × Int)) × (((Bool × Int) × (Int × Int)) × (Int × Int)) × (((Int × Int) × (Int × Int)) × (Bool × Int)) × ((Int × Int) × (Int × Int)) × (((Int × Int × Int) × (Int × Int × Int)) × (Int × Int)) × (((Int × Int) × (Int × Int)) × ((Int × Int) × Int)) × Unit × Str × (((Int × Int) × (Int × Int)) × (Int × Int))) → D := fun p => .list [(e_t2t2t2iit2iit2ii p.1), (e_t2t2t2iit2iit2ii p.2.1), (e_t2t2t2iit2iit2ii p.2.2.1), (e_t2t2t2iit2iit2ii p.2.2.2.1), (e_t2v2t2iit2iit2ii p.2.2.2.2.1), (e_t2t2t2iit2iiv2ii p.2.2.2.2.2.1), (e_t2t2t2iit2iit3iii p.2.2.2.2.2.2.1), (e_t1t2t2iit2ii p.2.2.2.2.2.2.2.1), (e_t2t2t2bit2iit2ii p.2.2.2.2.2.2.2.2.1), (e_t2t2t2iit2iit2bi p.2.2.2.2.2.2.2.2.2.1), (e_t2t1t2iit2ii p.2.2.2.2.2.2.2.2.2.2.1), (e_t2t2t3iiit3iiit2ii p.2.2.2.2.2.2.2.2.2.2.2.1), (e_t2t2t2iit2iit2t2iii p.2.2.2.2.2.2.2.2.2.2.2.2.1), .none, (.str p.2.2.2.2.2.2.2.2.2.2.2.2.2.2.1), (e_t2t2t2iit2iit2ii p.2.2.2.2.2.2.2.2.2.2.2.2.2.2.2)]
def e_lb : (List Bool) → D := fun l => .list (l.map PyData.bool)
def u_d_t2ii (d : D) : Option (Int × Int) := (tupD d).bind fun l => (asN2 l).bind fun p => (intD p.1).bind fun a0 => (intD p.2).bind fun a1 => some (a0, a1)
theorem u_d_t2ii_some {d : D} {v : (Int × Int)} (h : u_d_t2ii d = some v) : d = (e_t2ii v) := by
  unfold u_d_t2ii at h
  obtain ⟨l, g, h⟩ := bindS h
  obtain ⟨p, gp, h⟩ := bindS h
  obtain ⟨a0, g0, h⟩ := bindS h
  obtain ⟨a1, g1, h⟩ := bindS h
  obtain rfl := someS h
  rw [tupD_some g, asN2_some gp]
  show PyData.tuple [p.1, p.2] = _
  rw [intD_some g0, intD_some g1]
  try rfl
def u_d_t2t2iit2ii (d : D) : Option ((Int × Int) × (Int × Int)) := (tupD d).bind fun l => (asN2 l).bind fun p => (u_d_t2ii p.1).bind fun a0 => (u_d_t2ii p.2).bind fun a1 => some (a0, a1)
theorem u_d_t2t2iit2ii_some {d : D} {v : ((Int × Int) × (Int × Int))} (h : u_d_t2t2iit2ii d = some v) : d = (e_t2t2iit2ii v) := by
  unfold u_d_t2t2iit2ii at h
  obtain ⟨l, g, h⟩ := bindS h
  obtain ⟨p, gp, h⟩ := bindS h
  obtain ⟨a0, g0, h⟩ := bindS h
  obtain ⟨a1, g1, h⟩ := bindS h
  obtain rfl := someS h
  rw [tupD_some g, asN2_some gp]
  show PyData.tuple [p.1, p.2] = _
  rw [u_d_t2ii_some g0, u_d_t2ii_some g1]
  try rfl
def u_d_t2t2t2iit2iit2ii (d : D) : Option (((Int × Int) × (Int × Int)) × (Int × Int)) := (tupD d).bind fun l => (asN2 l).bind fun p => (u_d_t2t2iit2ii p.1).bind fun a0 => (u_d_t2ii p.2).bind fun a1 => some (a0, a1)
theorem u_d_t2t2t2iit2iit2ii_some {d : D} {v : (((Int × Int) × (Int × Int)) × (Int × Int))} (h : u_d_t2t2t2iit2iit2ii d = some v) : d = (e_t2t2t2iit2iit2ii v) := by
  unfold u_d_t2t2t2iit2iit2ii at h
  obtain ⟨l, g, h⟩ := bindS h
  obtain ⟨p, gp, h⟩ := bindS h
  obtain ⟨a0, g0, h⟩ := bindS h
  obtain ⟨a1, g1, h⟩ := bindS h
  obtain rfl := someS h
  rw [tupD_some g, asN2_some gp]
  show PyData.tuple [p.1, p.2] = _
  rw [u_d_t2t2iit2ii_some g0, u_d_t2ii_some g1]
  try rfl
def u_ui_t2ii (d : (List Int)) : Option (Int × Int) := (asN2 d).bind fun p => some (p.1, p.2)
theorem u_ui_t2ii_some {d : (List Int)} {v : (Int × Int)} (h : u_ui_t2ii d = some v) : (e_ui d) = (e_t2ii v) := by
  unfold u_ui_t2ii at h
  obtain ⟨p, gp, h⟩ := bindS h
  obtain rfl := someS h
  rw [asN2_some gp]
  show PyData.tuple [(.int p.1), (.int p.2)] = _
  try rfl
def u_uui_t2t2iit2ii (d : (List (List Int))) : Option ((Int × Int) × (Int × Int)) := (asN2 d).bind fun p => (u_ui_t2ii p.1).bind fun a0 => (u_ui_t2ii p.2).bind fun a1 => some (a0, a1)
theorem u_uui_t2t2iit2ii_some {d : (List (List Int))} {v : ((Int × Int) × (Int × Int))} (h : u_uui_t2t2iit2ii d = some v) : (e_uui d) = (e_t2t2iit2ii v) := by
  unfold u_uui_t2t2iit2ii at h
  obtain ⟨p, gp, h⟩ := bindS h
  obtain ⟨a0, g0, h⟩ := bindS h
  obtain ⟨a1, g1, h⟩ := bindS h
  obtain rfl := someS h
  rw [asN2_some gp]
  show PyData.tuple [(e_ui p.1), (e_ui p.2)] = _
  rw [u_ui_t2ii_some g0, u_ui_t2ii_some g1]
  try rfl
section
variable {P : Program} {w : World} {K : PySem.W.Frag} {mg : Str → Option Value} {base : Heap}
def s__law_dice : Stmt := topS 38
def nm__law_dice : List Str := ["script", "spot", "cell", "great"]
theorem sc__law_dice : FnScope nm__law_dice ["script", "spot"] (defScope s__law_dice) := ⟨rfl, rfl, rfl, by decide +kernel, rfl, by decide +kernel, by decide +kernel⟩
def m__law_dice (v_script : List Int) (v_spot : Int) : Option ((Int × Int)) := (if (decide (v_spot < (v_script.length : Int))) = true then ((ixO (v_script : List Int) v_spot).bind fun t1 => some t1) else ((mulO 131 v_spot).bind fun t2 => some (t2 + 71))).bind fun t3 => (modO (max 0 ((t3.natAbs : Int) - 10000000000000000)) 100000000000000000000000000000000000000000000000000000000000000000000000000000000000000000000000000000000000000).bind fun t6 => (modO (t3.natAbs : Int) 18446744073709551557).bind fun t7 => (mulO 7919 v_spot).bind fun t8 => (mulO 31 (if (decide (t3 < 0)) then (1 : Int) else 0)).bind fun t9 => (modO ((t7 + t8) + t9) 18446744073709551616).bind fun t10 => some (t6, t10)
def R__law_dice : Rel := fun rs ms r ms2 => ∃ (v_script : List Int) (v_spot : Int), rs = [.scr v_script, .dat (.int v_spot)] ∧ ms2 = ms ∧ ∃ v : (Int × Int), m__law_dice v_script v_spot = some v ∧ r = .new [(.int v.1), (.int v.2)]
theorem kn__law_dice (T : Txt K mg) {f : Addr} {fd : FuncData} (Fu : Fun K "_law_dice" "_law_dice" s__law_dice f fd) (hmf : mg "_law_dice" = some (.ref f))  : Kn P w K mg base 1 "_law_dice" R__law_dice := by
  have hb := Fu.binds (ps := ["script", "spot"]) fun _ _ _ _ _ _ us hl => match us, hl with | [_, _], _ => rfl
  refine kn_of (kk := 0) Fu sc__law_dice hb hmf rfl (by decide) (by rintro rs ms0 r ms ⟨v_script, v_spot, rfl, rfl, v, h, rfl⟩; exact ⟨rfl, rfl⟩) ?_
  rintro rs ms0 r ms ⟨v_script, v_spot, rfl, rfl, v, h, rfl⟩
  show Ex _ _ [.scr v_script, .dat (.int v_spot), .un, .un] ms (fun o => Fin ms o (.new [(.int v.1), (.int v.2)]))
  unfold m__law_dice at h
  show Ex _ _ [.scr v_script, .dat (.int v_spot), .un, .un] _ _
  obtain ⟨t3, ht3, h⟩ := bindS h
  refine ex_cons (ss_set 2 sc__law_dice.nd rfl (Or.inl rfl) (.inl rfl) (fun _ => rfl) (ee_ifO PyData.int (et_lt (nobehind _ (by decide) (by decide)) (ee_var 1 rfl (Or.inl rfl) rfl) (ee_is (ee_len T.len (by rfl) (ea_cons (fun _ _ _ p q => pa_cons p q) (ee_scr 0 rfl (Or.inl rfl) rfl) ea_nil) rfl) (by rw [List.length_map]))) ht3 (fun _ g4 => by obtain ⟨t1, ht1, g4⟩ := bindS g4; obtain rfl := someS g4; exact (ee_intI T.int (by rfl) (ea_cons (fun _ _ _ p q => pa_cons p q) (ee_ixL (fun X _ _ p q => pe_ix ix_list p q (fun _ _ => rfl)) (ee_scr 0 rfl (Or.inl rfl) rfl) (ee_var 1 rfl (Or.inl rfl) rfl) rfl (atI_map PyData.int ht1)) ea_nil))) (fun _ g5 => by obtain ⟨t2, ht2, g5⟩ := bindS g5; obtain rfl := someS g5; exact (ee_add (ee_mulO ee_int (ee_var 1 rfl (Or.inl rfl) rfl) ht2) ee_int))) rfl) ?_
  show Ex _ _ [.scr v_script, .dat (.int v_spot), .dat (.int t3), .un] _ _
  obtain ⟨t6, ht6, h⟩ := bindS h
  refine ex_cons (ss_set 3 sc__law_dice.nd rfl (Or.inl rfl) (.inl rfl) (fun _ => rfl) (ee_modO (ee_max2 T.max (by rfl) (ea_cons (fun _ _ _ p q => pa_cons p q) ee_int (ea_cons (fun _ _ _ p q => pa_cons p q) (ee_sub (ee_abs T.abs (by rfl) (ea_cons (fun _ _ _ p q => pa_cons p q) (ee_var 2 rfl (Or.inl rfl) rfl) ea_nil)) (ee_powC (i := 10) (j := 16) (k := 10000000000000000) ee_int ee_int (cpow_ok rfl) (by decide +kernel))) ea_nil))) (ee_mulC (i := 10000000000000000000000000000000000000000000000000000000) (j := 10000000000000000000000000000000000000000000000000000000) (k := 100000000000000000000000000000000000000000000000000000000000000000000000000000000000000000000000000000000000000) (ee_powC (i := 10) (j := 55) (k := 10000000000000000000000000000000000000000000000000000000) ee_int ee_int (cpow_ok rfl) (by decide +kernel)) (ee_powC (i := 10) (j := 55) (k := 10000000000000000000000000000000000000000000000000000000) ee_int ee_int (cpow_ok rfl) (by decide +kernel)) (cmul_ok rfl) (by decide +kernel)) ht6) rfl) ?_
  show Ex _ _ [.scr v_script, .dat (.int v_spot), .dat (.int t3), .dat (.int t6)] _ _
  obtain ⟨t7, ht7, h⟩ := bindS h
  obtain ⟨t8, ht8, h⟩ := bindS h
  obtain ⟨t9, ht9, h⟩ := bindS h
  obtain ⟨t10, ht10, h⟩ := bindS h
  obtain rfl := someS h
  exact ex_out (ss_ret (ee_lst (ea_cons (fun _ _ _ p q => pa_cons p q) (ee_var 3 rfl (Or.inl rfl) rfl) (ea_cons (fun _ _ _ p q => pa_cons p q) (ee_modO (ee_add (ee_add (ee_modO (ee_abs T.abs (by rfl) (ea_cons (fun _ _ _ p q => pa_cons p q) (ee_var 2 rfl (Or.inl rfl) rfl) ea_nil)) ee_int ht7) (ee_mulO ee_int (ee_var 1 rfl (Or.inl rfl) rfl) ht8)) (ee_mulO ee_int (ee_intB T.int (by rfl) (ea_cons (fun _ _ _ p q => pa_cons p q) (ee_lt (nobehind _ (by decide) (by decide)) (ee_var 2 rfl (Or.inl rfl) rfl) ee_int) ea_nil)) ht9)) ee_int ht10) ea_nil)) rfl (lnOk 2 rfl (by decide)))) rfl fin_new

def s__law_roll : Stmt := topS 39
def nm__law_roll : List Str := ["dice", "total", "found"]
theorem sc__law_roll : FnScope nm__law_roll ["dice", "total"] (defScope s__law_roll) := ⟨rfl, rfl, rfl, by decide +kernel, rfl, by decide +kernel, by decide +kernel⟩
def m__law_roll (d : Dice) (total : Int) : Option (Int × Dice) := if decide (0 < d.1) = true then ((modO d.1 total).bind fun f => (divO d.1 total).bind fun g => some (f, (g, d.2)))
  else ((mulO d.2 6364136223846793005).bind fun t1 => (modO (t1 + 1442695040888963407) 18446744073709551616).bind fun t2 => (divO t2 4294967296).bind fun t3 => (modO t3 total).bind fun t4 => some (t4, (d.1, t2)))
def A__law_roll : List Rs → Dice → Rs → Dice → Prop := fun args d r d2 => ∃ v_total : Int, args = [.dat (.int v_total)] ∧ ∃ v : Int × Dice, m__law_roll d v_total = some v ∧ r = .dat (.int v.1) ∧ d2 = v.2
abbrev R__law_roll : Rel := RelD 2 A__law_roll
theorem kn__law_roll (T : Txt K mg) {f : Addr} {fd : FuncData} (Fu : Fun K "_law_roll" "_law_roll" s__law_roll f fd) (hmf : mg "_law_roll" = some (.ref f)) : Kn P w K mg base 1 "_law_roll" R__law_roll := by
  have hb := Fu.binds (ps := ["dice", "total"]) fun _ _ _ _ _ _ us hl => match us, hl with | [_, _], _ => rfl
  refine kn_of (kk := 0) Fu sc__law_roll hb hmf rfl (by decide) relD_len ?_
  rintro rs ms r ms' ⟨mc, k, d, d', tl, args, hkm, rfl, hnn, rfl, rfl, v_total, rfl, v, h, rfl, rfl⟩
  show Ex _ _ [.mu k, .dat (.int v_total), .un] (MD mc k d ++ tl) (fun o => Fin (MD mc k v.2 ++ tl) o (.dat (.int v.1)))
  unfold m__law_roll at h
  have hl : lres (MD mc k d ++ tl) (.mu k) = some (eDice d) := by rw [lresMu]; exact MD_at hkm
  rcases boolCases (decide (0 < d.1)) with hc | hc
  · have h := iteT' hc h
    obtain ⟨f, hf, h⟩ := bindS h
    obtain ⟨g, hg, h⟩ := bindS h
    refine ex_ifT (et_gt (nobehind _ (by decide) (by decide)) (ee_ixL (fun X _ _ p q => pe_ix ix_list p q (fun _ _ => rfl)) (ee_mu 0 rfl (Or.inl rfl) rfl) ee_int hl (by rfl)) ee_int) hc ?_
    refine ex_cons (ss_set 2 sc__law_roll.nd rfl (Or.inl rfl) (.inl rfl) (fun _ => rfl) (ee_intI T.int (by rfl) (ea_cons (fun _ _ _ p q => pa_cons p q) (ee_modO (ee_ixL (fun X _ _ p q => pe_ix ix_list p q (fun _ _ => rfl)) (ee_mu 0 rfl (Or.inl rfl) rfl) ee_int hl (by rfl)) (ee_var 1 rfl (Or.inl rfl) rfl) hf) ea_nil)) rfl) ?_
    refine ex_cons (ss_ms (ss_setItem (fun _ => rfl) (fun _ => rfl) (fun _ => rfl) (fun X _ _ p q => pg_sub p q set_list) (ee_divO (ee_ixL (fun X _ _ p q => pe_ix ix_list p q (fun _ _ => rfl)) (ee_mu 0 rfl (Or.inl rfl) rfl) ee_int hl (by rfl)) (ee_var 1 rfl (Or.inl rfl) rfl) hg) rfl (ee_mu 0 rfl (Or.inl rfl) rfl) ee_int (MD_at hkm) (by rfl) (.inr tch0)) (MD_put (d' := (g, d.2)) hkm)) ?_
    obtain rfl := someS h
    exact ex_out (ss_ret (ee_var 2 rfl (Or.inl rfl) rfl)) rfl fin_dat
  · have h := iteF' hc h
    obtain ⟨t1, h1, h⟩ := bindS h
    obtain ⟨t2, h2, h⟩ := bindS h
    obtain ⟨t3, h3, h⟩ := bindS h
    obtain ⟨t4, h4, h⟩ := bindS h
    refine ex_ifF0 (et_gt (nobehind _ (by decide) (by decide)) (ee_ixL (fun X _ _ p q => pe_ix ix_list p q (fun _ _ => rfl)) (ee_mu 0 rfl (Or.inl rfl) rfl) ee_int hl (by rfl)) ee_int) hc ?_
    refine ex_cons (ss_ms (ss_setItem (fun _ => rfl) (fun _ => rfl) (fun _ => rfl) (fun X _ _ p q => pg_sub p q set_list) (ee_modO (ee_add (ee_mulO (ee_ixL (fun X _ _ p q => pe_ix ix_list p q (fun _ _ => rfl)) (ee_mu 0 rfl (Or.inl rfl) rfl) ee_int hl (by rfl)) ee_int h1) ee_int) ee_int h2) rfl (ee_mu 0 rfl (Or.inl rfl) rfl) ee_int (MD_at hkm) (by rfl) (.inr tch0)) (MD_put (d' := (d.1, t2)) hkm)) ?_
    have hl2 : lres (MD mc k (d.1, t2) ++ tl) (.mu k) = some (eDice (d.1, t2)) := by rw [lresMu]; exact MD_at hkm
    obtain rfl := someS h
    exact ex_out (ss_ret (ee_modO (ee_intI T.int (by rfl) (ea_cons (fun _ _ _ p q => pa_cons p q) (ee_divO (ee_ixL (fun X _ _ p q => pe_ix ix_list p q (fun _ _ => rfl)) (ee_mu 0 rfl (Or.inl rfl) rfl) ee_int hl2 (by rfl)) ee_int h3) ea_nil)) (ee_var 1 rfl (Or.inl rfl) rfl) h4)) rfl fin_dat

def s__law_step : Stmt := topS 43
def nm__law_step : List Str := ["kind", "many", "shift", "rows"]
theorem sc__law_step : FnScope nm__law_step ["kind", "many", "shift"] (defScope s__law_step) := ⟨rfl, rfl, rfl, by decide +kernel, rfl, by decide +kernel, by decide +kernel⟩
def m__law_step (v_kind : Int) (v_many : Int) (v_shift : (Int × Int)) : Option ((((Int × Int) × (Int × Int)) × (Int × Int))) := (ixO ([((1, v_many), (0, 1)), ((1, 0), (v_many, 1)), ((0, 1), (1, 0)), ((1, 0), (0, 1))] : List ((Int × Int) × (Int × Int))) v_kind).bind fun t1 => some (t1, v_shift)
def R__law_step : Rel := fun rs ms r ms2 => ∃ (v_kind : Int) (v_many : Int) (v_shift : (Int × Int)), rs = [.dat (.int v_kind), .dat (.int v_many), .dat (e_t2ii v_shift)] ∧ ms2 = ms ∧ ∃ v : (((Int × Int) × (Int × Int)) × (Int × Int)), m__law_step v_kind v_many v_shift = some v ∧ r = .dat (e_t2t2t2iit2iit2ii v)
theorem kn__law_step (T : Txt K mg) {f : Addr} {fd : FuncData} (Fu : Fun K "_law_step" "_law_step" s__law_step f fd) (hmf : mg "_law_step" = some (.ref f))  : Kn P w K mg base 1 "_law_step" R__law_step := by
  have hb := Fu.binds (ps := ["kind", "many", "shift"]) fun _ _ _ _ _ _ us hl => match us, hl with | [_, _, _], _ => rfl
  refine kn_of (kk := 0) Fu sc__law_step hb hmf rfl (by decide) (by rintro rs ms0 r ms ⟨v_kind, v_many, v_shift, rfl, rfl, v, h, rfl⟩; exact ⟨rfl, rfl⟩) ?_
  rintro rs ms0 r ms ⟨v_kind, v_many, v_shift, rfl, rfl, v, h, rfl⟩
  show Ex _ _ [.dat (.int v_kind), .dat (.int v_many), .dat (e_t2ii v_shift), .un] ms (fun o => Fin ms o (.dat (e_t2t2t2iit2iit2ii v)))
  unfold m__law_step at h
  show Ex _ _ [.dat (.int v_kind), .dat (.int v_many), .dat (e_t2ii v_shift), .un] _ _
  obtain ⟨t1, ht1, h⟩ := bindS h
  refine ex_cons (ss_set 3 sc__law_step.nd rfl (Or.inl rfl) (.inl rfl) (fun _ => rfl) (ee_ixL (fun X _ _ p q => pe_ix ix_list p q (fun _ _ => rfl)) (ee_lst (ea_cons (fun _ _ _ p q => pa_cons p q) (ee_tup (ea_cons (fun _ _ _ p q => pa_cons p q) (ee_tup (ea_cons (fun _ _ _ p q => pa_cons p q) ee_int (ea_cons (fun _ _ _ p q => pa_cons p q) (ee_var 1 rfl (Or.inl rfl) rfl) ea_nil)) rfl (lnOk 2 rfl (by decide))) (ea_cons (fun _ _ _ p q => pa_cons p q) (ee_tup (ea_cons (fun _ _ _ p q => pa_cons p q) ee_int (ea_cons (fun _ _ _ p q => pa_cons p q) ee_int ea_nil)) rfl (lnOk 2 rfl (by decide))) ea_nil)) rfl (lnOk 2 rfl (by decide))) (ea_cons (fun _ _ _ p q => pa_cons p q) (ee_tup (ea_cons (fun _ _ _ p q => pa_cons p q) (ee_tup (ea_cons (fun _ _ _ p q => pa_cons p q) ee_int (ea_cons (fun _ _ _ p q => pa_cons p q) ee_int ea_nil)) rfl (lnOk 2 rfl (by decide))) (ea_cons (fun _ _ _ p q => pa_cons p q) (ee_tup (ea_cons (fun _ _ _ p q => pa_cons p q) (ee_var 1 rfl (Or.inl rfl) rfl) (ea_cons (fun _ _ _ p q => pa_cons p q) ee_int ea_nil)) rfl (lnOk 2 rfl (by decide))) ea_nil)) rfl (lnOk 2 rfl (by decide))) (ea_cons (fun _ _ _ p q => pa_cons p q) (ee_tup (ea_cons (fun _ _ _ p q => pa_cons p q) (ee_tup (ea_cons (fun _ _ _ p q => pa_cons p q) ee_int (ea_cons (fun _ _ _ p q => pa_cons p q) ee_int ea_nil)) rfl (lnOk 2 rfl (by decide))) (ea_cons (fun _ _ _ p q => pa_cons p q) (ee_tup (ea_cons (fun _ _ _ p q => pa_cons p q) ee_int (ea_cons (fun _ _ _ p q => pa_cons p q) ee_int ea_nil)) rfl (lnOk 2 rfl (by decide))) ea_nil)) rfl (lnOk 2 rfl (by decide))) (ea_cons (fun _ _ _ p q => pa_cons p q) (ee_tup (ea_cons (fun _ _ _ p q => pa_cons p q) (ee_tup (ea_cons (fun _ _ _ p q => pa_cons p q) ee_int (ea_cons (fun _ _ _ p q => pa_cons p q) ee_int ea_nil)) rfl (lnOk 2 rfl (by decide))) (ea_cons (fun _ _ _ p q => pa_cons p q) (ee_tup (ea_cons (fun _ _ _ p q => pa_cons p q) ee_int (ea_cons (fun _ _ _ p q => pa_cons p q) ee_int ea_nil)) rfl (lnOk 2 rfl (by decide))) ea_nil)) rfl (lnOk 2 rfl (by decide))) ea_nil)))) rfl (lnOk 4 rfl (by decide))) (ee_var 0 rfl (Or.inl rfl) rfl) rfl (atI_map e_t2t2iit2ii ht1)) rfl) ?_
  show Ex _ _ [.dat (.int v_kind), .dat (.int v_many), .dat (e_t2ii v_shift), .dat (e_t2t2iit2ii t1)] _ _
  obtain rfl := someS h
  exact ex_out (ss_ret (ee_tup (ea_cons (fun _ _ _ p q => pa_cons p q) (ee_var 3 rfl (Or.inl rfl) rfl) (ea_cons (fun _ _ _ p q => pa_cons p q) (ee_var 2 rfl (Or.inl rfl) rfl) ea_nil)) rfl (lnOk 2 rfl (by decide)))) rfl fin_dat

def s__law_drawn : Stmt := topS 44
def nm__law_drawn : List Str := ["dice", "turn"]
theorem sc__law_drawn : FnScope nm__law_drawn ["dice"] (defScope s__law_drawn) := ⟨rfl, rfl, rfl, by decide +kernel, rfl, by decide +kernel, by decide +kernel⟩
def m__law_drawn (d : Dice)  : Option ((List (((Int × Int) × (Int × Int)) × (Int × Int))) × Dice) := (m__law_roll d 2).bind fun p1 => if (decide (p1.1 = 0)) = true then ((m__law_roll p1.2 40).bind fun p3 => (rgO (1 + p3.1)).bind fun t4 => (szO t4).bind fun t5 => (mapS (fun (x6 : Int) (d7 : Dice) => (m__law_roll d7 4).bind fun p10 => (m__law_roll p10.2 2).bind fun p11 => (mulO 2 p11.1).bind fun t12 => (m__law_roll p11.2 3).bind fun p13 => (m__law_roll p13.2 3).bind fun p14 => (m__law_step p10.1 (1 - t12) ((p13.1 - 1), (p14.1 - 1))).bind fun t15 => some (t15, p14.2)) t4 p3.2).bind fun p16 => some (p16.1, p16.2)) else ((m__law_roll p1.2 3).bind fun p17 => (rgO (2 + p17.1)).bind fun t18 => (szO t18).bind fun t19 => (mapS (fun (x20 : Int) (d21 : Dice) => (modO x20 2).bind fun t24 => (m__law_roll d21 1000000000).bind fun p25 => (m__law_roll p25.2 99).bind fun p26 => (m__law_roll p26.2 99).bind fun p27 => (m__law_step t24 (p25.1 - 100000000) (p26.1, (0 - p27.1))).bind fun t28 => some (t28, p27.2)) t18 p17.2).bind fun p29 => some (p29.1, p29.2))
def A__law_drawn : List Rs → Dice → Rs → Dice → Prop := fun args d r d2 => args = [] ∧ ∃ v : (List (((Int × Int) × (Int × Int)) × (Int × Int))) × Dice, m__law_drawn d = some v ∧ r = .new (v.1.map e_t2t2t2iit2iit2ii) ∧ d2 = v.2
abbrev R__law_drawn : Rel := RelD 1 A__law_drawn
theorem kn__law_drawn (T : Txt K mg) {f : Addr} {fd : FuncData} (Fu : Fun K "_law_drawn" "_law_drawn" s__law_drawn f fd) (hmf : mg "_law_drawn" = some (.ref f)) (g__law_roll : Kn P w K mg base 1 "_law_roll" R__law_roll) (g__law_step : Kn P w K mg base 1 "_law_step" R__law_step) : Kn P w K mg base 2 "_law_drawn" R__law_drawn := by
  have hb := Fu.binds (ps := ["dice"]) fun _ _ _ _ _ _ us hl => match us, hl with | [_], _ => rfl
  refine kn_of (kk := 1) Fu sc__law_drawn hb hmf rfl (by decide) relD_len ?_
  rintro rs ms r ms' ⟨mc, k, d, d', tl, args, hkm, rfl, hnn, rfl, rfl, rfl, v, h, rfl, rfl⟩
  show Ex _ _ [.mu k, .un] (MD mc k d ++ tl) (fun o => Fin (MD mc k v.2 ++ tl) o (.new (v.1.map e_t2t2t2iit2iit2ii)))
  unfold m__law_drawn at h
  show Ex _ _ [.mu k, .un] _ _
  obtain ⟨p1, hp1, h⟩ := bindS h
  rcases boolCases (decide (p1.1 = 0)) with hc2 | hc2
  · have h := iteT' hc2 h
    refine ex_ifT (et_eqI (nobehind _ (by decide) (by decide)) (ee_callD (r := .dat (.int p1.1)) (d' := p1.2) hkm g__law_roll (Nat.le_of_ble_eq_true rfl) (by rfl) rfl (ea_cons (fun _ _ _ p q => pa_cons p q) (ee_mu 0 rfl (Or.inr (Or.inl rfl)) rfl) (ea_cons (fun _ _ _ p q => pa_cons p q) ee_int ea_nil)) ⟨2, rfl, p1, hp1, rfl, rfl⟩ (mu_mu (.inr tch0) (mu_dat mu_nil))) ee_int) hc2 ?_
    obtain ⟨p3, hp3, h⟩ := bindS h
    obtain ⟨t4, ht4, h⟩ := bindS h
    obtain ⟨t5, ht5, h⟩ := bindS h
    obtain ⟨p16, hp16, h⟩ := bindS h
    obtain rfl := someS h
    exact ex_out (ss_ret (ee_lcS (tl := tl) [("turn", 1)] PyData.int e_t2t2t2iit2iit2ii t4 _ sc__law_drawn.nd (blkOk_by (N := nm__law_drawn) (sc := defScope s__law_drawn) (by decide +kernel)) (fun _ _ => rfl) (it_rngO T.range (by rfl) (fun X _ h1 h2 h3 => pi_range1 h2 h3 h1) (ea_cons (fun _ _ _ p q => pa_cons p q) (ee_add ee_int (ee_callD (r := .dat (.int p3.1)) (d' := p3.2) hkm g__law_roll (Nat.le_of_ble_eq_true rfl) (by rfl) rfl (ea_cons (fun _ _ _ p q => pa_cons p q) (ee_mu 0 rfl (Or.inr (Or.inl rfl)) rfl) (ea_cons (fun _ _ _ p q => pa_cons p q) ee_int ea_nil)) ⟨40, rfl, p3, hp3, rfl, rfl⟩ (mu_mu (.inr tch0) (mu_dat mu_nil)))) ea_nil) ht4) (fun _ _ => trivial) (by first | exact Nat.le_refl _ | (simp only [List.length_append, MD_len, M2_len, List.length_cons, List.length_nil, Sx.blk]; omega)) (fun x6 _ d7 y9 ex g8 => by obtain ⟨p10, hp10, g8⟩ := bindS g8; obtain ⟨p11, hp11, g8⟩ := bindS g8; obtain ⟨t12, ht12, g8⟩ := bindS g8; obtain ⟨p13, hp13, g8⟩ := bindS g8; obtain ⟨p14, hp14, g8⟩ := bindS g8; obtain ⟨t15, ht15, g8⟩ := bindS g8; obtain rfl := someS g8; exact ⟨_, _, by decide, (eg_name 1 sc__law_drawn.nd rfl (Or.inl rfl) (.inr rfl)), _, (ee_call g__law_step (Nat.le_of_ble_eq_true rfl) (by rfl) (ea_cons (fun _ _ _ p q => pa_cons p q) (ee_callD (r := .dat (.int p10.1)) (d' := p10.2) hkm g__law_roll (Nat.le_of_ble_eq_true rfl) (by rfl) rfl (ea_cons (fun _ _ _ p q => pa_cons p q) (ee_mu 0 rfl (Or.inr (Or.inl rfl)) rfl) (ea_cons (fun _ _ _ p q => pa_cons p q) ee_int ea_nil)) ⟨4, rfl, p10, hp10, rfl, rfl⟩ (mu_mu (.inr tch0) (mu_dat mu_nil))) (ea_cons (fun _ _ _ p q => pa_cons p q) (ee_sub ee_int (ee_mulO ee_int (ee_callD (r := .dat (.int p11.1)) (d' := p11.2) hkm g__law_roll (Nat.le_of_ble_eq_true rfl) (by rfl) rfl (ea_cons (fun _ _ _ p q => pa_cons p q) (ee_mu 0 rfl (Or.inr (Or.inl rfl)) rfl) (ea_cons (fun _ _ _ p q => pa_cons p q) ee_int ea_nil)) ⟨2, rfl, p11, hp11, rfl, rfl⟩ (mu_mu (.inr tch0) (mu_dat mu_nil))) ht12)) (ea_cons (fun _ _ _ p q => pa_cons p q) (ee_tup (ea_cons (fun _ _ _ p q => pa_cons p q) (ee_sub (ee_callD (r := .dat (.int p13.1)) (d' := p13.2) hkm g__law_roll (Nat.le_of_ble_eq_true rfl) (by rfl) rfl (ea_cons (fun _ _ _ p q => pa_cons p q) (ee_mu 0 rfl (Or.inr (Or.inl rfl)) rfl) (ea_cons (fun _ _ _ p q => pa_cons p q) ee_int ea_nil)) ⟨3, rfl, p13, hp13, rfl, rfl⟩ (mu_mu (.inr tch0) (mu_dat mu_nil))) ee_int) (ea_cons (fun _ _ _ p q => pa_cons p q) (ee_sub (ee_callD (r := .dat (.int p14.1)) (d' := p14.2) hkm g__law_roll (Nat.le_of_ble_eq_true rfl) (by rfl) rfl (ea_cons (fun _ _ _ p q => pa_cons p q) (ee_mu 0 rfl (Or.inr (Or.inl rfl)) rfl) (ea_cons (fun _ _ _ p q => pa_cons p q) ee_int ea_nil)) ⟨3, rfl, p14, hp14, rfl, rfl⟩ (mu_mu (.inr tch0) (mu_dat mu_nil))) ee_int) ea_nil)) rfl (lnOk 2 rfl (by decide))) ea_nil))) ⟨p10.1, (1 - t12), ((p13.1 - 1), (p14.1 - 1)), rfl, rfl, t15, ht15, rfl⟩ (mu_dat (mu_dat (mu_dat mu_nil)))), rfl⟩) hp16 (szO_some ht5).1)) rfl fin_new
  · have h := iteF' hc2 h
    refine ex_ifF0 (et_eqI (nobehind _ (by decide) (by decide)) (ee_callD (r := .dat (.int p1.1)) (d' := p1.2) hkm g__law_roll (Nat.le_of_ble_eq_true rfl) (by rfl) rfl (ea_cons (fun _ _ _ p q => pa_cons p q) (ee_mu 0 rfl (Or.inr (Or.inl rfl)) rfl) (ea_cons (fun _ _ _ p q => pa_cons p q) ee_int ea_nil)) ⟨2, rfl, p1, hp1, rfl, rfl⟩ (mu_mu (.inr tch0) (mu_dat mu_nil))) ee_int) hc2 ?_
    obtain ⟨p17, hp17, h⟩ := bindS h
    obtain ⟨t18, ht18, h⟩ := bindS h
    obtain ⟨t19, ht19, h⟩ := bindS h
    obtain ⟨p29, hp29, h⟩ := bindS h
    obtain rfl := someS h
    exact ex_out (ss_ret (ee_lcS (tl := tl) [("turn", 1)] PyData.int e_t2t2t2iit2iit2ii t18 _ sc__law_drawn.nd (blkOk_by (N := nm__law_drawn) (sc := defScope s__law_drawn) (by decide +kernel)) (fun _ _ => rfl) (it_rngO T.range (by rfl) (fun X _ h1 h2 h3 => pi_range1 h2 h3 h1) (ea_cons (fun _ _ _ p q => pa_cons p q) (ee_add ee_int (ee_callD (r := .dat (.int p17.1)) (d' := p17.2) hkm g__law_roll (Nat.le_of_ble_eq_true rfl) (by rfl) rfl (ea_cons (fun _ _ _ p q => pa_cons p q) (ee_mu 0 rfl (Or.inr (Or.inl rfl)) rfl) (ea_cons (fun _ _ _ p q => pa_cons p q) ee_int ea_nil)) ⟨3, rfl, p17, hp17, rfl, rfl⟩ (mu_mu (.inr tch0) (mu_dat mu_nil)))) ea_nil) ht18) (fun _ _ => trivial) (by first | exact Nat.le_refl _ | (simp only [List.length_append, MD_len, M2_len, List.length_cons, List.length_nil, Sx.blk]; omega)) (fun x20 _ d21 y23 ex g22 => by obtain ⟨t24, ht24, g22⟩ := bindS g22; obtain ⟨p25, hp25, g22⟩ := bindS g22; obtain ⟨p26, hp26, g22⟩ := bindS g22; obtain ⟨p27, hp27, g22⟩ := bindS g22; obtain ⟨t28, ht28, g22⟩ := bindS g22; obtain rfl := someS g22; exact ⟨_, _, by decide, (eg_name 1 sc__law_drawn.nd rfl (Or.inl rfl) (.inr rfl)), _, (ee_call g__law_step (Nat.le_of_ble_eq_true rfl) (by rfl) (ea_cons (fun _ _ _ p q => pa_cons p q) (ee_modO (ee_var 1 rfl (Or.inl rfl) rfl) ee_int ht24) (ea_cons (fun _ _ _ p q => pa_cons p q) (ee_sub (ee_callD (r := .dat (.int p25.1)) (d' := p25.2) hkm g__law_roll (Nat.le_of_ble_eq_true rfl) (by rfl) rfl (ea_cons (fun _ _ _ p q => pa_cons p q) (ee_mu 0 rfl (Or.inr (Or.inl rfl)) rfl) (ea_cons (fun _ _ _ p q => pa_cons p q) (ee_powC (i := 10) (j := 9) (k := 1000000000) ee_int ee_int (cpow_ok rfl) (by decide +kernel)) ea_nil)) ⟨1000000000, rfl, p25, hp25, rfl, rfl⟩ (mu_mu (.inr tch0) (mu_dat mu_nil))) (ee_powC (i := 10) (j := 8) (k := 100000000) ee_int ee_int (cpow_ok rfl) (by decide +kernel))) (ea_cons (fun _ _ _ p q => pa_cons p q) (ee_tup (ea_cons (fun _ _ _ p q => pa_cons p q) (ee_callD (r := .dat (.int p26.1)) (d' := p26.2) hkm g__law_roll (Nat.le_of_ble_eq_true rfl) (by rfl) rfl (ea_cons (fun _ _ _ p q => pa_cons p q) (ee_mu 0 rfl (Or.inr (Or.inl rfl)) rfl) (ea_cons (fun _ _ _ p q => pa_cons p q) ee_int ea_nil)) ⟨99, rfl, p26, hp26, rfl, rfl⟩ (mu_mu (.inr tch0) (mu_dat mu_nil))) (ea_cons (fun _ _ _ p q => pa_cons p q) (ee_sub ee_int (ee_callD (r := .dat (.int p27.1)) (d' := p27.2) hkm g__law_roll (Nat.le_of_ble_eq_true rfl) (by rfl) rfl (ea_cons (fun _ _ _ p q => pa_cons p q) (ee_mu 0 rfl (Or.inr (Or.inl rfl)) rfl) (ea_cons (fun _ _ _ p q => pa_cons p q) ee_int ea_nil)) ⟨99, rfl, p27, hp27, rfl, rfl⟩ (mu_mu (.inr tch0) (mu_dat mu_nil)))) ea_nil)) rfl (lnOk 2 rfl (by decide))) ea_nil))) ⟨t24, (p25.1 - 100000000), (p26.1, (0 - p27.1)), rfl, rfl, t28, ht28, rfl⟩ (mu_dat (mu_dat (mu_dat mu_nil)))), rfl⟩) hp29 (szO_some ht19).1)) rfl fin_new

def s__law_still : Stmt := topS 42
def nm__law_still : List Str := []
theorem sc__law_still : FnScope nm__law_still [] (defScope s__law_still) := ⟨rfl, rfl, rfl, by decide +kernel, rfl, by decide +kernel, by decide +kernel⟩
def m__law_still  : Option ((((Int × Int) × (Int × Int)) × (Int × Int))) := some (((1, 0), (0, 1)), (0, 0))
def R__law_still : Rel := fun rs ms r ms2 => rs = [] ∧ ms2 = ms ∧ ∃ v : (((Int × Int) × (Int × Int)) × (Int × Int)), m__law_still  = some v ∧ r = .dat (e_t2t2t2iit2iit2ii v)
theorem kn__law_still (T : Txt K mg) {f : Addr} {fd : FuncData} (Fu : Fun K "_law_still" "_law_still" s__law_still f fd) (hmf : mg "_law_still" = some (.ref f))  : Kn P w K mg base 1 "_law_still" R__law_still := by
  have hb := Fu.binds (ps := []) fun _ _ _ _ _ _ us hl => match us, hl with | [], _ => rfl
  refine kn_of (kk := 0) Fu sc__law_still hb hmf rfl (by decide) (by rintro rs ms0 r ms ⟨rfl, rfl, v, h, rfl⟩; exact ⟨rfl, rfl⟩) ?_
  rintro rs ms0 r ms ⟨rfl, rfl, v, h, rfl⟩
  show Ex _ _ [] ms (fun o => Fin ms o (.dat (e_t2t2t2iit2iit2ii v)))
  unfold m__law_still at h
  show Ex _ _ [] _ _
  obtain rfl := someS h
  exact ex_out (ss_ret (ee_tup (ea_cons (fun _ _ _ p q => pa_cons p q) (ee_tup (ea_cons (fun _ _ _ p q => pa_cons p q) (ee_tup (ea_cons (fun _ _ _ p q => pa_cons p q) ee_int (ea_cons (fun _ _ _ p q => pa_cons p q) ee_int ea_nil)) rfl (lnOk 2 rfl (by decide))) (ea_cons (fun _ _ _ p q => pa_cons p q) (ee_tup (ea_cons (fun _ _ _ p q => pa_cons p q) ee_int (ea_cons (fun _ _ _ p q => pa_cons p q) ee_int ea_nil)) rfl (lnOk 2 rfl (by decide))) ea_nil)) rfl (lnOk 2 rfl (by decide))) (ea_cons (fun _ _ _ p q => pa_cons p q) (ee_tup (ea_cons (fun _ _ _ p q => pa_cons p q) ee_int (ea_cons (fun _ _ _ p q => pa_cons p q) ee_int ea_nil)) rfl (lnOk 2 rfl (by decide))) ea_nil)) rfl (lnOk 2 rfl (by decide)))) rfl fin_dat

def s_is_within : Stmt := topS 7
def nm_is_within : List Str := ["value", "least", "most"]
theorem sc_is_within : FnScope nm_is_within ["value", "least", "most"] (defScope s_is_within) := ⟨rfl, rfl, rfl, by decide +kernel, rfl, by decide +kernel, by decide +kernel⟩
def m_is_within (v_value : D) (v_least : Int) (v_most : Int) : Option (Bool) := (if (isi "int" v_value) = true then ((if (!(isi "bool" v_value)) = true then ((intD v_value).bind fun t1 => some (decide (v_least ≤ t1) && decide (t1 ≤ v_most))) else some false).bind fun t2 => some t2) else some false).bind fun t4 => some t4
def R_is_within : Rel := fun rs ms r ms2 => ∃ (v_value : D) (v_least : Int) (v_most : Int), rs = [.dat v_value, .dat (.int v_least), .dat (.int v_most)] ∧ ms2 = ms ∧ ∃ v : Bool, m_is_within v_value v_least v_most = some v ∧ r = .dat (.bool v)
theorem kn_is_within (T : Txt K mg) {f : Addr} {fd : FuncData} (Fu : Fun K "is_within" "is_within" s_is_within f fd) (hmf : mg "is_within" = some (.ref f))  : Kn P w K mg base 1 "is_within" R_is_within := by
  have hb := Fu.binds (ps := ["value", "least", "most"]) fun _ _ _ _ _ _ us hl => match us, hl with | [_, _, _], _ => rfl
  refine kn_of (kk := 0) Fu sc_is_within hb hmf rfl (by decide) (by rintro rs ms0 r ms ⟨v_value, v_least, v_most, rfl, rfl, v, h, rfl⟩; exact ⟨rfl, rfl⟩) ?_
  rintro rs ms0 r ms ⟨v_value, v_least, v_most, rfl, rfl, v, h, rfl⟩
  show Ex _ _ [.dat v_value, .dat (.int v_least), .dat (.int v_most)] ms (fun o => Fin ms o (.dat (.bool v)))
  unfold m_is_within at h
  show Ex _ _ [.dat v_value, .dat (.int v_least), .dat (.int v_most)] _ _
  obtain ⟨t4, ht4, h⟩ := bindS h
  obtain rfl := someS h
  exact ex_out (ss_ret (ee_andO (ee_isi T.isinstance (by rfl) (isi_int v_value) (ea_cons (fun _ _ _ p q => pa_cons p q) (ee_var 0 rfl (Or.inl rfl) rfl) (ea_cons (fun _ _ _ p q => pa_cons p q) (ee_ty T.int (by rfl) bt_int) ea_nil))) ht4 (fun _ g5 => by obtain ⟨t2, ht2, g5⟩ := bindS g5; obtain rfl := someS g5; exact (ee_andO (ee_not (ee_isi T.isinstance (by rfl) (isi_bool v_value) (ea_cons (fun _ _ _ p q => pa_cons p q) (ee_var 0 rfl (Or.inl rfl) rfl) (ea_cons (fun _ _ _ p q => pa_cons p q) (ee_ty T.bool (by rfl) bt_bool) ea_nil)))) ht2 (fun _ g3 => by obtain ⟨t1, ht1, g3⟩ := bindS g3; obtain rfl := someS g3; exact (ee_one (ee_chain (fun _ => op_le) (fun _ => op_le) (by with_unfolding_all rfl) (ee_var 1 rfl (Or.inl rfl) rfl) (ee_is (ee_var 0 rfl (Or.inl rfl) rfl) (by rw [intD_some ht1])) (ee_var 2 rfl (Or.inl rfl) rfl)))))))) rfl fin_dat

def s_is_integer : Stmt := topS 24
def nm_is_integer : List Str := ["value"]
theorem sc_is_integer : FnScope nm_is_integer ["value"] (defScope s_is_integer) := ⟨rfl, rfl, rfl, by decide +kernel, rfl, by decide +kernel, by decide +kernel⟩
def m_is_integer (v_value : D) : Option (Bool) := (m_is_within v_value (-999999999999999999999999999999999999999999999999999999999999) 999999999999999999999999999999999999999999999999999999999999).bind fun t1 => some t1
def R_is_integer : Rel := fun rs ms r ms2 => ∃ (v_value : D), rs = [.dat v_value] ∧ ms2 = ms ∧ ∃ v : Bool, m_is_integer v_value = some v ∧ r = .dat (.bool v)
theorem kn_is_integer (T : Txt K mg) {f : Addr} {fd : FuncData} (Fu : Fun K "is_integer" "is_integer" s_is_integer f fd) (hmf : mg "is_integer" = some (.ref f)) (g_is_within : Kn P w K mg base 1 "is_within" R_is_within) : Kn P w K mg base 2 "is_integer" R_is_integer := by
  have hb := Fu.binds (ps := ["value"]) fun _ _ _ _ _ _ us hl => match us, hl with | [_], _ => rfl
  refine kn_of (kk := 1) Fu sc_is_integer hb hmf rfl (by decide) (by rintro rs ms0 r ms ⟨v_value, rfl, rfl, v, h, rfl⟩; exact ⟨rfl, rfl⟩) ?_
  rintro rs ms0 r ms ⟨v_value, rfl, rfl, v, h, rfl⟩
  show Ex _ _ [.dat v_value] ms (fun o => Fin ms o (.dat (.bool v)))
  unfold m_is_integer at h
  show Ex _ _ [.dat v_value] _ _
  obtain ⟨t1, ht1, h⟩ := bindS h
  obtain rfl := someS h
  exact ex_out (ss_ret (ee_call g_is_within (Nat.le_of_ble_eq_true rfl) (by rfl) (ea_cons (fun _ _ _ p q => pa_cons p q) (ee_var 0 rfl (Or.inl rfl) rfl) (ea_cons (fun _ _ _ p q => pa_cons p q) (ee_neg (ee_gint T.c_GREAT (by rfl))) (ea_cons (fun _ _ _ p q => pa_cons p q) (ee_gint T.c_GREAT (by rfl)) ea_nil))) ⟨v_value, (-999999999999999999999999999999999999999999999999999999999999), 999999999999999999999999999999999999999999999999999999999999, rfl, rfl, t1, ht1, rfl⟩ (mu_dat (mu_dat (mu_dat mu_nil))))) rfl fin_dat

def s_are_two : Stmt := topS 27
def nm_are_two : List Str := ["value", "one"]
theorem sc_are_two : FnScope nm_are_two ["value"] (defScope s_are_two) := ⟨rfl, rfl, rfl, by decide +kernel, rfl, by decide +kernel, by decide +kernel⟩
def m_are_two (v_value : D) : Option (Bool) := (if (isi "tuple" v_value) = true then ((tupD v_value).bind fun t1 => (if (decide ((t1.length : Int) = 2)) = true then ((tupD v_value).bind fun t2 => (szO t2).bind fun t3 => (mapO (fun (x4 : D) => (m_is_integer x4).bind fun t7 => some t7) t2).bind fun t8 => some ((t8 : List Bool).all id)) else some false).bind fun t9 => some t9) else some false).bind fun t11 => some t11
def R_are_two : Rel := fun rs ms r ms2 => ∃ (v_value : D), rs = [.dat v_value] ∧ ms2 = ms ∧ ∃ v : Bool, m_are_two v_value = some v ∧ r = .dat (.bool v)
theorem kn_are_two (T : Txt K mg) {f : Addr} {fd : FuncData} (Fu : Fun K "are_two" "are_two" s_are_two f fd) (hmf : mg "are_two" = some (.ref f)) (g_is_integer : Kn P w K mg base 2 "is_integer" R_is_integer) : Kn P w K mg base 3 "are_two" R_are_two := by
  have hb := Fu.binds (ps := ["value"]) fun _ _ _ _ _ _ us hl => match us, hl with | [_], _ => rfl
  refine kn_of (kk := 2) Fu sc_are_two hb hmf rfl (by decide) (by rintro rs ms0 r ms ⟨v_value, rfl, rfl, v, h, rfl⟩; exact ⟨rfl, rfl⟩) ?_
  rintro rs ms0 r ms ⟨v_value, rfl, rfl, v, h, rfl⟩
  show Ex _ _ [.dat v_value, .un] ms (fun o => Fin ms o (.dat (.bool v)))
  unfold m_are_two at h
  show Ex _ _ [.dat v_value, .un] _ _
  obtain ⟨t11, ht11, h⟩ := bindS h
  obtain rfl := someS h
  exact ex_out (ss_ret (ee_andO (ee_isi T.isinstance (by rfl) (isi_tuple v_value) (ea_cons (fun _ _ _ p q => pa_cons p q) (ee_var 0 rfl (Or.inl rfl) rfl) (ea_cons (fun _ _ _ p q => pa_cons p q) (ee_ty T.tuple (by rfl) bt_tuple) ea_nil))) ht11 (fun _ g12 => by obtain ⟨t1, ht1, g12⟩ := bindS g12; obtain ⟨t9, ht9, g12⟩ := bindS g12; obtain rfl := someS g12; exact (ee_andO (ee_eqI (nobehind _ (by decide) (by decide)) (ee_lenT T.len (by rfl) (ea_cons (fun _ _ _ p q => pa_cons p q) (ee_is (ee_var 0 rfl (Or.inl rfl) rfl) (by rw [tupD_some ht1])) ea_nil)) ee_int) ht9 (fun _ g10 => by obtain ⟨t2, ht2, g10⟩ := bindS g10; obtain ⟨t3, ht3, g10⟩ := bindS g10; obtain ⟨t8, ht8, g10⟩ := bindS g10; obtain rfl := someS g10; exact (ee_one (ee_all T.all (by rfl) (ea_cons (fun _ _ _ p q => pa_cons p q) (ee_lcP [("one", 1)] (fun d : D => d) PyData.bool t2 _ sc_are_two.nd (blkOk_by (N := nm_are_two) (sc := defScope s_are_two) (by decide +kernel)) (fun _ _ => rfl) (it_D (it_tup (fun X _ h => pi_tup h) (ee_is (ee_var 0 rfl (Or.inl rfl) rfl) (by rw [tupD_some ht2])))) (fun _ => trivial) (by first | exact Nat.le_refl _ | (simp only [List.length_append, MD_len, M2_len, List.length_cons, List.length_nil, Sx.blk]; omega)) (fun x4 _ y6 ex g5 => by obtain ⟨t7, ht7, g5⟩ := bindS g5; obtain rfl := someS g5; exact ⟨_, _, by decide, (eg_name 1 sc_are_two.nd rfl (Or.inl rfl) (.inr rfl)), _, (ee_call g_is_integer (Nat.le_of_ble_eq_true rfl) (by rfl) (ea_cons (fun _ _ _ p q => pa_cons p q) (ee_var 1 rfl (Or.inl rfl) rfl) ea_nil) ⟨x4, rfl, rfl, t7, ht7, rfl⟩ (mu_dat mu_nil)), rfl⟩) ht8 (szO_some ht3).1) ea_nil) rfl))))))) rfl fin_dat

def s_is_whole_move_of : Stmt := topS 28
def nm_is_whole_move_of : List Str := ["value", "rows", "row"]
theorem sc_is_whole_move_of : FnScope nm_is_whole_move_of ["value"] (defScope s_is_whole_move_of) := ⟨rfl, rfl, rfl, by decide +kernel, rfl, by decide +kernel, by decide +kernel⟩
def m_is_whole_move_of (v_value : D) : Option (Bool) := (if (!(isi "tuple" v_value)) = true then some true else ((tupD v_value).bind fun t1 => (if (decide ((t1.length : Int) ≠ 2)) = true then some true else ((tupD v_value).bind fun t2 => (ixO t2 1).bind fun t3 => (m_are_two t3).bind fun t4 => some (!t4))).bind fun t6 => some t6)).bind fun t8 => if t8 = true then (some false) else ((tupD v_value).bind fun t10 => (ixO t10 0).bind fun t11 => (if (!(isi "tuple" t11)) = true then some true else ((tupD t11).bind fun t12 => (if (decide ((t12.length : Int) ≠ 2)) = true then some true else ((tupD t11).bind fun t13 => (szO t13).bind fun t14 => (mapO (fun (x15 : D) => (m_are_two x15).bind fun t18 => some t18) t13).bind fun t19 => some (!((t19 : List Bool).all id)))).bind fun t21 => some t21)).bind fun t23 => if t23 = true then (some false) else ((tupD t11).bind fun t25 => (ixO t25 0).bind fun t26 => (tupD t26).bind fun t27 => (ixO t27 0).bind fun t28 => (intD t28).bind fun t29 => (tupD t11).bind fun t30 => (ixO t30 1).bind fun t31 => (tupD t31).bind fun t32 => (ixO t32 1).bind fun t33 => (intD t33).bind fun t34 => (mulO t29 t34).bind fun t35 => (tupD t11).bind fun t36 => (ixO t36 0).bind fun t37 => (tupD t37).bind fun t38 => (ixO t38 1).bind fun t39 => (intD t39).bind fun t40 => (tupD t11).bind fun t41 => (ixO t41 1).bind fun t42 => (tupD t42).bind fun t43 => (ixO t43 0).bind fun t44 => (intD t44).bind fun t45 => (mulO t40 t45).bind fun t46 => some (decide ((t35 - t46) ∈ ([1, (-1)] : List Int)))))
def R_is_whole_move_of : Rel := fun rs ms r ms2 => ∃ (v_value : D), rs = [.dat v_value] ∧ ms2 = ms ∧ ∃ v : Bool, m_is_whole_move_of v_value = some v ∧ r = .dat (.bool v)
theorem kn_is_whole_move_of (T : Txt K mg) {f : Addr} {fd : FuncData} (Fu : Fun K "is_whole_move_of" "is_whole_move_of" s_is_whole_move_of f fd) (hmf : mg "is_whole_move_of" = some (.ref f)) (g_are_two : Kn P w K mg base 3 "are_two" R_are_two) : Kn P w K mg base 4 "is_whole_move_of" R_is_whole_move_of := by
  have hb := Fu.binds (ps := ["value"]) fun _ _ _ _ _ _ us hl => match us, hl with | [_], _ => rfl
  refine kn_of (kk := 3) Fu sc_is_whole_move_of hb hmf rfl (by decide) (by rintro rs ms0 r ms ⟨v_value, rfl, rfl, v, h, rfl⟩; exact ⟨rfl, rfl⟩) ?_
  rintro rs ms0 r ms ⟨v_value, rfl, rfl, v, h, rfl⟩
  show Ex _ _ [.dat v_value, .un, .un] ms (fun o => Fin ms o (.dat (.bool v)))
  unfold m_is_whole_move_of at h
  show Ex _ _ [.dat v_value, .un, .un] _ _
  obtain ⟨t8, ht8, h⟩ := bindS h
  rcases boolCases t8 with hc9 | hc9
  · have h := iteT' hc9 h
    refine ex_ifT (et_w (ew_orO (et_not (et_val (fun _ _ => rfl) (ee_isi T.isinstance (by rfl) (isi_tuple v_value) (ea_cons (fun _ _ _ p q => pa_cons p q) (ee_var 0 rfl (Or.inl rfl) rfl) (ea_cons (fun _ _ _ p q => pa_cons p q) (ee_ty T.tuple (by rfl) bt_tuple) ea_nil))))) ht8 (fun _ g7 => by obtain ⟨t1, ht1, g7⟩ := bindS g7; obtain ⟨t6, ht6, g7⟩ := bindS g7; obtain rfl := someS g7; exact (ew_orO (et_neI (nobehind _ (by decide) (by decide)) (ee_lenT T.len (by rfl) (ea_cons (fun _ _ _ p q => pa_cons p q) (ee_is (ee_var 0 rfl (Or.inl rfl) rfl) (by rw [tupD_some ht1])) ea_nil)) ee_int) ht6 (fun _ g5 => by obtain ⟨t2, ht2, g5⟩ := bindS g5; obtain ⟨t3, ht3, g5⟩ := bindS g5; obtain ⟨t4, ht4, g5⟩ := bindS g5; obtain rfl := someS g5; exact (ew_or1 (et_not (et_val (fun _ _ => rfl) (ee_call g_are_two (Nat.le_of_ble_eq_true rfl) (by rfl) (ea_cons (fun _ _ _ p q => pa_cons p q) (ee_ixT (fun X _ _ p q => pe_ix ix_tup p q (fun _ _ => rfl)) (ee_is (ee_var 0 rfl (Or.inl rfl) rfl) (by rw [tupD_some ht2])) ee_int ht3) ea_nil) ⟨t3, rfl, rfl, t4, ht4, rfl⟩ (mu_dat mu_nil)))))))))) hc9 ?_
    obtain rfl := someS h
    exact ex_out (ss_ret ee_bool) rfl fin_dat
  · have h := iteF' hc9 h
    refine ex_ifF0 (et_w (ew_orO (et_not (et_val (fun _ _ => rfl) (ee_isi T.isinstance (by rfl) (isi_tuple v_value) (ea_cons (fun _ _ _ p q => pa_cons p q) (ee_var 0 rfl (Or.inl rfl) rfl) (ea_cons (fun _ _ _ p q => pa_cons p q) (ee_ty T.tuple (by rfl) bt_tuple) ea_nil))))) ht8 (fun _ g7 => by obtain ⟨t1, ht1, g7⟩ := bindS g7; obtain ⟨t6, ht6, g7⟩ := bindS g7; obtain rfl := someS g7; exact (ew_orO (et_neI (nobehind _ (by decide) (by decide)) (ee_lenT T.len (by rfl) (ea_cons (fun _ _ _ p q => pa_cons p q) (ee_is (ee_var 0 rfl (Or.inl rfl) rfl) (by rw [tupD_some ht1])) ea_nil)) ee_int) ht6 (fun _ g5 => by obtain ⟨t2, ht2, g5⟩ := bindS g5; obtain ⟨t3, ht3, g5⟩ := bindS g5; obtain ⟨t4, ht4, g5⟩ := bindS g5; obtain rfl := someS g5; exact (ew_or1 (et_not (et_val (fun _ _ => rfl) (ee_call g_are_two (Nat.le_of_ble_eq_true rfl) (by rfl) (ea_cons (fun _ _ _ p q => pa_cons p q) (ee_ixT (fun X _ _ p q => pe_ix ix_tup p q (fun _ _ => rfl)) (ee_is (ee_var 0 rfl (Or.inl rfl) rfl) (by rw [tupD_some ht2])) ee_int ht3) ea_nil) ⟨t3, rfl, rfl, t4, ht4, rfl⟩ (mu_dat mu_nil)))))))))) hc9 ?_
    obtain ⟨t10, ht10, h⟩ := bindS h
    obtain ⟨t11, ht11, h⟩ := bindS h
    refine ex_cons (ss_set 1 sc_is_whole_move_of.nd rfl (Or.inl rfl) (.inl rfl) (fun _ => rfl) (ee_ixT (fun X _ _ p q => pe_ix ix_tup p q (fun _ _ => rfl)) (ee_is (ee_var 0 rfl (Or.inl rfl) rfl) (by rw [tupD_some ht10])) ee_int ht11) rfl) ?_
    show Ex _ _ [.dat v_value, .dat t11, .un] _ _
    obtain ⟨t23, ht23, h⟩ := bindS h
    rcases boolCases t23 with hc24 | hc24
    · have h := iteT' hc24 h
      refine ex_ifT (et_w (ew_orO (et_not (et_val (fun _ _ => rfl) (ee_isi T.isinstance (by rfl) (isi_tuple t11) (ea_cons (fun _ _ _ p q => pa_cons p q) (ee_var 1 rfl (Or.inl rfl) rfl) (ea_cons (fun _ _ _ p q => pa_cons p q) (ee_ty T.tuple (by rfl) bt_tuple) ea_nil))))) ht23 (fun _ g22 => by obtain ⟨t12, ht12, g22⟩ := bindS g22; obtain ⟨t21, ht21, g22⟩ := bindS g22; obtain rfl := someS g22; exact (ew_orO (et_neI (nobehind _ (by decide) (by decide)) (ee_lenT T.len (by rfl) (ea_cons (fun _ _ _ p q => pa_cons p q) (ee_is (ee_var 1 rfl (Or.inl rfl) rfl) (by rw [tupD_some ht12])) ea_nil)) ee_int) ht21 (fun _ g20 => by obtain ⟨t13, ht13, g20⟩ := bindS g20; obtain ⟨t14, ht14, g20⟩ := bindS g20; obtain ⟨t19, ht19, g20⟩ := bindS g20; obtain rfl := someS g20; exact (ew_or1 (et_not (et_val (fun _ _ => rfl) (ee_all T.all (by rfl) (ea_cons (fun _ _ _ p q => pa_cons p q) (ee_lcP [("row", 2)] (fun d : D => d) PyData.bool t13 _ sc_is_whole_move_of.nd (blkOk_by (N := nm_is_whole_move_of) (sc := defScope s_is_whole_move_of) (by decide +kernel)) (fun _ _ => rfl) (it_D (it_tup (fun X _ h => pi_tup h) (ee_is (ee_var 1 rfl (Or.inl rfl) rfl) (by rw [tupD_some ht13])))) (fun _ => trivial) (by first | exact Nat.le_refl _ | (simp only [List.length_append, MD_len, M2_len, List.length_cons, List.length_nil, Sx.blk]; omega)) (fun x15 _ y17 ex g16 => by obtain ⟨t18, ht18, g16⟩ := bindS g16; obtain rfl := someS g16; exact ⟨_, _, by decide, (eg_name 2 sc_is_whole_move_of.nd rfl (Or.inl rfl) (.inr rfl)), _, (ee_call g_are_two (Nat.le_of_ble_eq_true rfl) (by rfl) (ea_cons (fun _ _ _ p q => pa_cons p q) (ee_var 2 rfl (Or.inl rfl) rfl) ea_nil) ⟨x15, rfl, rfl, t18, ht18, rfl⟩ (mu_dat mu_nil)), rfl⟩) ht19 (szO_some ht14).1) ea_nil) rfl))))))))) hc24 ?_
      obtain rfl := someS h
      exact ex_out (ss_ret ee_bool) rfl fin_dat
    · have h := iteF' hc24 h
      refine ex_ifF0 (et_w (ew_orO (et_not (et_val (fun _ _ => rfl) (ee_isi T.isinstance (by rfl) (isi_tuple t11) (ea_cons (fun _ _ _ p q => pa_cons p q) (ee_var 1 rfl (Or.inl rfl) rfl) (ea_cons (fun _ _ _ p q => pa_cons p q) (ee_ty T.tuple (by rfl) bt_tuple) ea_nil))))) ht23 (fun _ g22 => by obtain ⟨t12, ht12, g22⟩ := bindS g22; obtain ⟨t21, ht21, g22⟩ := bindS g22; obtain rfl := someS g22; exact (ew_orO (et_neI (nobehind _ (by decide) (by decide)) (ee_lenT T.len (by rfl) (ea_cons (fun _ _ _ p q => pa_cons p q) (ee_is (ee_var 1 rfl (Or.inl rfl) rfl) (by rw [tupD_some ht12])) ea_nil)) ee_int) ht21 (fun _ g20 => by obtain ⟨t13, ht13, g20⟩ := bindS g20; obtain ⟨t14, ht14, g20⟩ := bindS g20; obtain ⟨t19, ht19, g20⟩ := bindS g20; obtain rfl := someS g20; exact (ew_or1 (et_not (et_val (fun _ _ => rfl) (ee_all T.all (by rfl) (ea_cons (fun _ _ _ p q => pa_cons p q) (ee_lcP [("row", 2)] (fun d : D => d) PyData.bool t13 _ sc_is_whole_move_of.nd (blkOk_by (N := nm_is_whole_move_of) (sc := defScope s_is_whole_move_of) (by decide +kernel)) (fun _ _ => rfl) (it_D (it_tup (fun X _ h => pi_tup h) (ee_is (ee_var 1 rfl (Or.inl rfl) rfl) (by rw [tupD_some ht13])))) (fun _ => trivial) (by first | exact Nat.le_refl _ | (simp only [List.length_append, MD_len, M2_len, List.length_cons, List.length_nil, Sx.blk]; omega)) (fun x15 _ y17 ex g16 => by obtain ⟨t18, ht18, g16⟩ := bindS g16; obtain rfl := someS g16; exact ⟨_, _, by decide, (eg_name 2 sc_is_whole_move_of.nd rfl (Or.inl rfl) (.inr rfl)), _, (ee_call g_are_two (Nat.le_of_ble_eq_true rfl) (by rfl) (ea_cons (fun _ _ _ p q => pa_cons p q) (ee_var 2 rfl (Or.inl rfl) rfl) ea_nil) ⟨x15, rfl, rfl, t18, ht18, rfl⟩ (mu_dat mu_nil)), rfl⟩) ht19 (szO_some ht14).1) ea_nil) rfl))))))))) hc24 ?_
      obtain ⟨t25, ht25, h⟩ := bindS h
      obtain ⟨t26, ht26, h⟩ := bindS h
      obtain ⟨t27, ht27, h⟩ := bindS h
      obtain ⟨t28, ht28, h⟩ := bindS h
      obtain ⟨t29, ht29, h⟩ := bindS h
      obtain ⟨t30, ht30, h⟩ := bindS h
      obtain ⟨t31, ht31, h⟩ := bindS h
      obtain ⟨t32, ht32, h⟩ := bindS h
      obtain ⟨t33, ht33, h⟩ := bindS h
      obtain ⟨t34, ht34, h⟩ := bindS h
      obtain ⟨t35, ht35, h⟩ := bindS h
      obtain ⟨t36, ht36, h⟩ := bindS h
      obtain ⟨t37, ht37, h⟩ := bindS h
      obtain ⟨t38, ht38, h⟩ := bindS h
      obtain ⟨t39, ht39, h⟩ := bindS h
      obtain ⟨t40, ht40, h⟩ := bindS h
      obtain ⟨t41, ht41, h⟩ := bindS h
      obtain ⟨t42, ht42, h⟩ := bindS h
      obtain ⟨t43, ht43, h⟩ := bindS h
      obtain ⟨t44, ht44, h⟩ := bindS h
      obtain ⟨t45, ht45, h⟩ := bindS h
      obtain ⟨t46, ht46, h⟩ := bindS h
      obtain rfl := someS h
      exact ex_out (ss_ret (ee_inI (ns := [1, (-1)]) rfl (ee_sub (ee_mulO (ee_is (ee_ixT (fun X _ _ p q => pe_ix ix_tup p q (fun _ _ => rfl)) (ee_is (ee_ixT (fun X _ _ p q => pe_ix ix_tup p q (fun _ _ => rfl)) (ee_is (ee_var 1 rfl (Or.inl rfl) rfl) (by rw [tupD_some ht25])) ee_int ht26) (by rw [tupD_some ht27])) ee_int ht28) (by rw [intD_some ht29])) (ee_is (ee_ixT (fun X _ _ p q => pe_ix ix_tup p q (fun _ _ => rfl)) (ee_is (ee_ixT (fun X _ _ p q => pe_ix ix_tup p q (fun _ _ => rfl)) (ee_is (ee_var 1 rfl (Or.inl rfl) rfl) (by rw [tupD_some ht30])) ee_int ht31) (by rw [tupD_some ht32])) ee_int ht33) (by rw [intD_some ht34])) ht35) (ee_mulO (ee_is (ee_ixT (fun X _ _ p q => pe_ix ix_tup p q (fun _ _ => rfl)) (ee_is (ee_ixT (fun X _ _ p q => pe_ix ix_tup p q (fun _ _ => rfl)) (ee_is (ee_var 1 rfl (Or.inl rfl) rfl) (by rw [tupD_some ht36])) ee_int ht37) (by rw [tupD_some ht38])) ee_int ht39) (by rw [intD_some ht40])) (ee_is (ee_ixT (fun X _ _ p q => pe_ix ix_tup p q (fun _ _ => rfl)) (ee_is (ee_ixT (fun X _ _ p q => pe_ix ix_tup p q (fun _ _ => rfl)) (ee_is (ee_var 1 rfl (Or.inl rfl) rfl) (by rw [tupD_some ht41])) ee_int ht42) (by rw [tupD_some ht43])) ee_int ht44) (by rw [intD_some ht45])) ht46)) (ee_is (ee_tup (ea_cons (fun _ _ _ p q => pa_cons p q) ee_int (ea_cons (fun _ _ _ p q => pa_cons p q) (ee_neg ee_int) ea_nil)) rfl (lnOk 2 rfl (by decide))) (by rfl)))) rfl fin_dat

def s_require_whole_move : Stmt := topS 29
def nm_require_whole_move : List Str := ["moves", "move"]
theorem sc_require_whole_move : FnScope nm_require_whole_move ["moves"] (defScope s_require_whole_move) := ⟨rfl, rfl, rfl, by decide +kernel, rfl, by decide +kernel, by decide +kernel⟩
def m_require_whole_move (v_moves : List D) : Option (Unit) := (szO (v_moves : List D)).bind fun t1 => (mapO (fun (x2 : D) => (m_is_whole_move_of x2).bind fun t5 => some t5) (v_moves : List D)).bind fun t6 => if (!((t6 : List Bool).all id)) = true then (none) else (some ())
def R_require_whole_move : Rel := fun rs ms r ms2 => ∃ l : List D, rs = l.map (fun d => Rs.dat d) ∧ l.length ≤ sizeLine ∧ ms2 = ms ∧ ∃ v : Unit, m_require_whole_move l = some v ∧ r = .dat .none
theorem kn_require_whole_move (T : Txt K mg) {f : Addr} {fd : FuncData} (Fu : Fun K "require_whole_move" "require_whole_move" s_require_whole_move f fd) (hmf : mg "require_whole_move" = some (.ref f)) (g_is_whole_move_of : Kn P w K mg base 4 "is_whole_move_of" R_is_whole_move_of) : Kn P w K mg base 5 "require_whole_move" R_require_whole_move := by
  refine kn_star (kk := 4) (pv := "moves") (N := nm_require_whole_move) Fu sc_require_whole_move hmf (by decide) (fun _ _ _ _ _ _ us rest hl => match us, rest, hl with | [], [], _ => rfl | [], _ :: _, _ => rfl) ?_
  rintro rs ms0 r ms ⟨v_moves, rfl, hz, rfl, v, h, rfl⟩
  refine ⟨v_moves, rfl, hz, rfl, ?_⟩
  show Ex _ _ [.dat (PyData.tuple v_moves), .un] ms (fun o => Fin ms o (.dat .none))
  unfold m_require_whole_move at h
  show Ex _ _ [.dat (PyData.tuple v_moves), .un] _ _
  obtain ⟨t1, ht1, h⟩ := bindS h
  obtain ⟨t6, ht6, h⟩ := bindS h
  rcases boolCases (!((t6 : List Bool).all id)) with hc7 | hc7
  · have h := iteT' hc7 h
    refine ex_ifT (et_not (et_val (fun _ _ => rfl) (ee_all T.all (by rfl) (ea_cons (fun _ _ _ p q => pa_cons p q) (ee_lcP [("move", 1)] (fun d : D => d) PyData.bool (v_moves : List D) _ sc_require_whole_move.nd (blkOk_by (N := nm_require_whole_move) (sc := defScope s_require_whole_move) (by decide +kernel)) (fun _ _ => rfl) (it_D (it_tup (fun X _ h => pi_tup h) (ee_var 0 rfl (Or.inl rfl) rfl))) (fun _ => trivial) (by first | exact Nat.le_refl _ | (simp only [List.length_append, MD_len, M2_len, List.length_cons, List.length_nil, Sx.blk]; omega)) (fun x2 _ y4 ex g3 => by obtain ⟨t5, ht5, g3⟩ := bindS g3; obtain rfl := someS g3; exact ⟨_, _, by decide, (eg_name 1 sc_require_whole_move.nd rfl (Or.inl rfl) (.inr rfl)), _, (ee_call g_is_whole_move_of (Nat.le_of_ble_eq_true rfl) (by rfl) (ea_cons (fun _ _ _ p q => pa_cons p q) (ee_var 1 rfl (Or.inl rfl) rfl) ea_nil) ⟨x2, rfl, rfl, t5, ht5, rfl⟩ (mu_dat mu_nil)), rfl⟩) ht6 (szO_some ht1).1) ea_nil) rfl))) hc7 ?_
    cases h
  · have h := iteF' hc7 h
    refine ex_ifF0 (et_not (et_val (fun _ _ => rfl) (ee_all T.all (by rfl) (ea_cons (fun _ _ _ p q => pa_cons p q) (ee_lcP [("move", 1)] (fun d : D => d) PyData.bool (v_moves : List D) _ sc_require_whole_move.nd (blkOk_by (N := nm_require_whole_move) (sc := defScope s_require_whole_move) (by decide +kernel)) (fun _ _ => rfl) (it_D (it_tup (fun X _ h => pi_tup h) (ee_var 0 rfl (Or.inl rfl) rfl))) (fun _ => trivial) (by first | exact Nat.le_refl _ | (simp only [List.length_append, MD_len, M2_len, List.length_cons, List.length_nil, Sx.blk]; omega)) (fun x2 _ y4 ex g3 => by obtain ⟨t5, ht5, g3⟩ := bindS g3; obtain rfl := someS g3; exact ⟨_, _, by decide, (eg_name 1 sc_require_whole_move.nd rfl (Or.inl rfl) (.inr rfl)), _, (ee_call g_is_whole_move_of (Nat.le_of_ble_eq_true rfl) (by rfl) (ea_cons (fun _ _ _ p q => pa_cons p q) (ee_var 1 rfl (Or.inl rfl) rfl) ea_nil) ⟨x2, rfl, rfl, t5, ht5, rfl⟩ (mu_dat mu_nil)), rfl⟩) ht6 (szO_some ht1).1) ea_nil) rfl))) hc7 ?_
    obtain rfl := someS h
    exact ex_nil fin_none

def s_led_in : Stmt := topS 16
def nm_led_in : List Str := ["move", "point", "a", "b", "c", "d", "x", "y"]
theorem sc_led_in : FnScope nm_led_in ["move", "point"] (defScope s_led_in) := ⟨rfl, rfl, rfl, by decide +kernel, rfl, by decide +kernel, by decide +kernel⟩
def m_led_in (v_move : (((Int × Int) × (Int × Int)) × (Int × Int))) (v_point : (Int × Int × Int)) : Option ((Int × Int × Int)) := (mulO v_move.1.1.1 v_point.1).bind fun t1 => (mulO v_move.1.1.2 v_point.2.1).bind fun t2 => (mulO v_move.1.2.1 v_point.1).bind fun t3 => (mulO v_move.1.2.2 v_point.2.1).bind fun t4 => some (((t1 + t2) + v_move.2.1), ((t3 + t4) + v_move.2.2), 1)
def R_led_in : Rel := fun rs ms r ms2 => ∃ (v_move : (((Int × Int) × (Int × Int)) × (Int × Int))) (v_point : (Int × Int × Int)), rs = [.dat (e_t2t2t2iit2iit2ii v_move), .dat (e_t3iii v_point)] ∧ ms2 = ms ∧ ∃ v : (Int × Int × Int), m_led_in v_move v_point = some v ∧ r = .dat (e_t3iii v)
theorem kn_led_in (T : Txt K mg) {f : Addr} {fd : FuncData} (Fu : Fun K "led_in" "led_in" s_led_in f fd) (hmf : mg "led_in" = some (.ref f))  : Kn P w K mg base 1 "led_in" R_led_in := by
  have hb := Fu.binds (ps := ["move", "point"]) fun _ _ _ _ _ _ us hl => match us, hl with | [_, _], _ => rfl
  refine kn_of (kk := 0) Fu sc_led_in hb hmf rfl (by decide) (by rintro rs ms0 r ms ⟨v_move, v_point, rfl, rfl, v, h, rfl⟩; exact ⟨rfl, rfl⟩) ?_
  rintro rs ms0 r ms ⟨v_move, v_point, rfl, rfl, v, h, rfl⟩
  show Ex _ _ [.dat (e_t2t2t2iit2iit2ii v_move), .dat (e_t3iii v_point), .un, .un, .un, .un, .un, .un] ms (fun o => Fin ms o (.dat (e_t3iii v)))
  unfold m_led_in at h
  show Ex _ _ [.dat (e_t2t2t2iit2iit2ii v_move), .dat (e_t3iii v_point), .un, .un, .un, .un, .un, .un] _ _
  refine ex_cons (ss_asgS (fun _ => rfl) (fun X hX => (sw_env (env' := env0 (defScope s_led_in)) hX.sc _ _).trans rfl) (fun _ => rfl) (ee_var 0 rfl (Or.inl rfl) rfl) rfl (eg_tup (fun _ => rfl) (fun _ => rfl) (egs_cons (fun _ _ _ p q => pgs_cons p q) (eg_tup (fun _ => rfl) (fun _ => rfl) (egs_cons (fun _ _ _ p q => pgs_cons p q) (eg_tup (fun _ => rfl) (fun _ => rfl) (egs_cons (fun _ _ _ p q => pgs_cons p q) (eg_name 2 sc_led_in.nd rfl (Or.inl rfl) (.inl rfl)) (egs_cons (fun _ _ _ p q => pgs_cons p q) (eg_name 3 sc_led_in.nd rfl (Or.inl rfl) (.inl rfl)) egs_nil))) (egs_cons (fun _ _ _ p q => pgs_cons p q) (eg_tup (fun _ => rfl) (fun _ => rfl) (egs_cons (fun _ _ _ p q => pgs_cons p q) (eg_name 4 sc_led_in.nd rfl (Or.inl rfl) (.inl rfl)) (egs_cons (fun _ _ _ p q => pgs_cons p q) (eg_name 5 sc_led_in.nd rfl (Or.inl rfl) (.inl rfl)) egs_nil))) egs_nil))) (egs_cons (fun _ _ _ p q => pgs_cons p q) (eg_tup (fun _ => rfl) (fun _ => rfl) (egs_cons (fun _ _ _ p q => pgs_cons p q) (eg_name 6 sc_led_in.nd rfl (Or.inl rfl) (.inl rfl)) (egs_cons (fun _ _ _ p q => pgs_cons p q) (eg_name 7 sc_led_in.nd rfl (Or.inl rfl) (.inl rfl)) egs_nil))) egs_nil)))) ?_
  show Ex _ _ [.dat (e_t2t2t2iit2iit2ii v_move), .dat (e_t3iii v_point), .dat (.int v_move.1.1.1), .dat (.int v_move.1.1.2), .dat (.int v_move.1.2.1), .dat (.int v_move.1.2.2), .dat (.int v_move.2.1), .dat (.int v_move.2.2)] _ _
  obtain ⟨t1, ht1, h⟩ := bindS h
  obtain ⟨t2, ht2, h⟩ := bindS h
  obtain ⟨t3, ht3, h⟩ := bindS h
  obtain ⟨t4, ht4, h⟩ := bindS h
  obtain rfl := someS h
  exact ex_out (ss_ret (ee_tup (ea_cons (fun _ _ _ p q => pa_cons p q) (ee_add (ee_add (ee_mulO (ee_var 2 rfl (Or.inl rfl) rfl) (ee_ixT (fun X _ _ p q => pe_ix ix_tup p q (fun _ _ => rfl)) (ee_var 1 rfl (Or.inl rfl) rfl) ee_int (by rfl)) ht1) (ee_mulO (ee_var 3 rfl (Or.inl rfl) rfl) (ee_ixT (fun X _ _ p q => pe_ix ix_tup p q (fun _ _ => rfl)) (ee_var 1 rfl (Or.inl rfl) rfl) ee_int (by rfl)) ht2)) (ee_var 6 rfl (Or.inl rfl) rfl)) (ea_cons (fun _ _ _ p q => pa_cons p q) (ee_add (ee_add (ee_mulO (ee_var 4 rfl (Or.inl rfl) rfl) (ee_ixT (fun X _ _ p q => pe_ix ix_tup p q (fun _ _ => rfl)) (ee_var 1 rfl (Or.inl rfl) rfl) ee_int (by rfl)) ht3) (ee_mulO (ee_var 5 rfl (Or.inl rfl) rfl) (ee_ixT (fun X _ _ p q => pe_ix ix_tup p q (fun _ _ => rfl)) (ee_var 1 rfl (Or.inl rfl) rfl) ee_int (by rfl)) ht4)) (ee_var 7 rfl (Or.inl rfl) rfl)) (ea_cons (fun _ _ _ p q => pa_cons p q) ee_int ea_nil))) rfl (lnOk 3 rfl (by decide)))) rfl fin_dat

def s_led_rows : Stmt := topS 17
def nm_led_rows : List Str := ["one", "far", "a", "b", "c", "d", "e", "f"]
theorem sc_led_rows : FnScope nm_led_rows ["one", "far"] (defScope s_led_rows) := ⟨rfl, rfl, rfl, by decide +kernel, rfl, by decide +kernel, by decide +kernel⟩
def m_led_rows (v_one : ((Int × Int) × (Int × Int))) (v_far : ((Int × Int) × (Int × Int))) : Option (((Int × Int) × (Int × Int))) := (szO ([v_far.1, v_far.2] : List (Int × Int))).bind fun t1 => (mapO (fun (x2 : (Int × Int)) => (mulO x2.1 v_one.1.1).bind fun t5 => (mulO x2.2 v_one.2.1).bind fun t6 => (mulO x2.1 v_one.1.2).bind fun t7 => (mulO x2.2 v_one.2.2).bind fun t8 => some ((t5 + t6), (t7 + t8))) ([v_far.1, v_far.2] : List (Int × Int))).bind fun t9 => (asN2 t9).bind fun t10 => some t10
def R_led_rows : Rel := fun rs ms r ms2 => ∃ (v_one : ((Int × Int) × (Int × Int))) (v_far : ((Int × Int) × (Int × Int))), rs = [.dat (e_t2t2iit2ii v_one), .dat (e_t2t2iit2ii v_far)] ∧ ms2 = ms ∧ ∃ v : ((Int × Int) × (Int × Int)), m_led_rows v_one v_far = some v ∧ r = .dat (e_t2t2iit2ii v)
theorem kn_led_rows (T : Txt K mg) {f : Addr} {fd : FuncData} (Fu : Fun K "led_rows" "led_rows" s_led_rows f fd) (hmf : mg "led_rows" = some (.ref f))  : Kn P w K mg base 1 "led_rows" R_led_rows := by
  have hb := Fu.binds (ps := ["one", "far"]) fun _ _ _ _ _ _ us hl => match us, hl with | [_, _], _ => rfl
  refine kn_of (kk := 0) Fu sc_led_rows hb hmf rfl (by decide) (by rintro rs ms0 r ms ⟨v_one, v_far, rfl, rfl, v, h, rfl⟩; exact ⟨rfl, rfl⟩) ?_
  rintro rs ms0 r ms ⟨v_one, v_far, rfl, rfl, v, h, rfl⟩
  show Ex _ _ [.dat (e_t2t2iit2ii v_one), .dat (e_t2t2iit2ii v_far), .un, .un, .un, .un, .un, .un] ms (fun o => Fin ms o (.dat (e_t2t2iit2ii v)))
  unfold m_led_rows at h
  show Ex _ _ [.dat (e_t2t2iit2ii v_one), .dat (e_t2t2iit2ii v_far), .un, .un, .un, .un, .un, .un] _ _
  refine ex_cons (ss_asgS (fun _ => rfl) (fun X hX => (sw_env (env' := env0 (defScope s_led_rows)) hX.sc _ _).trans rfl) (fun _ => rfl) (ee_var 0 rfl (Or.inl rfl) rfl) rfl (eg_tup (fun _ => rfl) (fun _ => rfl) (egs_cons (fun _ _ _ p q => pgs_cons p q) (eg_tup (fun _ => rfl) (fun _ => rfl) (egs_cons (fun _ _ _ p q => pgs_cons p q) (eg_name 2 sc_led_rows.nd rfl (Or.inr rfl) (.inl rfl)) (egs_cons (fun _ _ _ p q => pgs_cons p q) (eg_name 3 sc_led_rows.nd rfl (Or.inr rfl) (.inl rfl)) egs_nil))) (egs_cons (fun _ _ _ p q => pgs_cons p q) (eg_tup (fun _ => rfl) (fun _ => rfl) (egs_cons (fun _ _ _ p q => pgs_cons p q) (eg_name 4 sc_led_rows.nd rfl (Or.inr rfl) (.inl rfl)) (egs_cons (fun _ _ _ p q => pgs_cons p q) (eg_name 5 sc_led_rows.nd rfl (Or.inr rfl) (.inl rfl)) egs_nil))) egs_nil)))) ?_
  show Ex _ _ [.dat (e_t2t2iit2ii v_one), .dat (e_t2t2iit2ii v_far), .dat (.int v_one.1.1), .dat (.int v_one.1.2), .dat (.int v_one.2.1), .dat (.int v_one.2.2), .un, .un] _ _
  obtain ⟨t1, ht1, h⟩ := bindS h
  obtain ⟨t9, ht9, h⟩ := bindS h
  obtain ⟨t10, ht10, h⟩ := bindS h
  obtain rfl := someS h
  exact ex_out (ss_ret (ee_is (ee_tuple T.tuple (by rfl) (ea_cons (fun _ _ _ p q => pa_cons p q) (ee_lcP [("e", 6), ("f", 7)] e_t2ii e_t2ii ([v_far.1, v_far.2] : List (Int × Int)) _ sc_led_rows.nd (blkOk_by (N := nm_led_rows) (sc := defScope s_led_rows) (by decide +kernel)) (fun _ _ => rfl) (it_tup (ds := ([v_far.1, v_far.2] : List (Int × Int)).map e_t2ii) (fun X _ h => pi_tup h) (ee_var 1 rfl (Or.inl rfl) rfl)) (fun _ => trivial) (by first | exact Nat.le_refl _ | (simp only [List.length_append, MD_len, M2_len, List.length_cons, List.length_nil, Sx.blk]; omega)) (fun x2 _ y4 ex g3 => by obtain ⟨t5, ht5, g3⟩ := bindS g3; obtain ⟨t6, ht6, g3⟩ := bindS g3; obtain ⟨t7, ht7, g3⟩ := bindS g3; obtain ⟨t8, ht8, g3⟩ := bindS g3; obtain rfl := someS g3; exact ⟨_, _, by decide, (eg_tup (fun _ => rfl) (fun _ => rfl) (egs_cons (fun _ _ _ p q => pgs_cons p q) (eg_name 6 sc_led_rows.nd rfl (Or.inl rfl) (.inr rfl)) (egs_cons (fun _ _ _ p q => pgs_cons p q) (eg_name 7 sc_led_rows.nd rfl (Or.inl rfl) (.inr rfl)) egs_nil))), _, (ee_tup (ea_cons (fun _ _ _ p q => pa_cons p q) (ee_add (ee_mulO (ee_var 6 rfl (Or.inl rfl) rfl) (ee_var 2 rfl (Or.inr (Or.inl rfl)) rfl) ht5) (ee_mulO (ee_var 7 rfl (Or.inl rfl) rfl) (ee_var 4 rfl (Or.inr (Or.inl rfl)) rfl) ht6)) (ea_cons (fun _ _ _ p q => pa_cons p q) (ee_add (ee_mulO (ee_var 6 rfl (Or.inl rfl) rfl) (ee_var 3 rfl (Or.inr (Or.inl rfl)) rfl) ht7) (ee_mulO (ee_var 7 rfl (Or.inl rfl) rfl) (ee_var 5 rfl (Or.inr (Or.inl rfl)) rfl) ht8)) ea_nil)) rfl (lnOk 2 rfl (by decide))), rfl⟩) ht9 (szO_some ht1).1) ea_nil) rfl) (by rw [asN2_some ht10]; rfl))) rfl fin_dat

def s_led_behind : Stmt := topS 32
def nm_led_behind : List Str := ["whole_move", "far_move", "x", "y", "one"]
theorem sc_led_behind : FnScope nm_led_behind ["whole_move", "far_move"] (defScope s_led_behind) := ⟨rfl, rfl, rfl, by decide +kernel, rfl, by decide +kernel, by decide +kernel⟩
def m_led_behind (v_whole_move : (((Int × Int) × (Int × Int)) × (Int × Int))) (v_far_move : (((Int × Int) × (Int × Int)) × (Int × Int))) : Option ((((Int × Int) × (Int × Int)) × (Int × Int))) := (m_require_whole_move [(e_t2t2t2iit2iit2ii v_whole_move), (e_t2t2t2iit2iit2ii v_far_move)]).bind fun t1 => (m_led_in v_far_move (v_whole_move.2.1, v_whole_move.2.2, 1)).bind fun t2 => (m_led_rows v_whole_move.1 v_far_move.1).bind fun t3 => some (t3, (t2.1, t2.2.1))
def R_led_behind : Rel := fun rs ms r ms2 => ∃ (v_whole_move : (((Int × Int) × (Int × Int)) × (Int × Int))) (v_far_move : (((Int × Int) × (Int × Int)) × (Int × Int))), rs = [.dat (e_t2t2t2iit2iit2ii v_whole_move), .dat (e_t2t2t2iit2iit2ii v_far_move)] ∧ ms2 = ms ∧ ∃ v : (((Int × Int) × (Int × Int)) × (Int × Int)), m_led_behind v_whole_move v_far_move = some v ∧ r = .dat (e_t2t2t2iit2iit2ii v)
theorem kn_led_behind (T : Txt K mg) {f : Addr} {fd : FuncData} (Fu : Fun K "led_behind" "led_behind" s_led_behind f fd) (hmf : mg "led_behind" = some (.ref f)) (g_require_whole_move : Kn P w K mg base 5 "require_whole_move" R_require_whole_move) (g_led_in : Kn P w K mg base 1 "led_in" R_led_in) (g_led_rows : Kn P w K mg base 1 "led_rows" R_led_rows) : Kn P w K mg base 6 "led_behind" R_led_behind := by
  have hb := Fu.binds (ps := ["whole_move", "far_move"]) fun _ _ _ _ _ _ us hl => match us, hl with | [_, _], _ => rfl
  refine kn_of (kk := 5) Fu sc_led_behind hb hmf rfl (by decide) (by rintro rs ms0 r ms ⟨v_whole_move, v_far_move, rfl, rfl, v, h, rfl⟩; exact ⟨rfl, rfl⟩) ?_
  rintro rs ms0 r ms ⟨v_whole_move, v_far_move, rfl, rfl, v, h, rfl⟩
  show Ex _ _ [.dat (e_t2t2t2iit2iit2ii v_whole_move), .dat (e_t2t2t2iit2iit2ii v_far_move), .un, .un, .un] ms (fun o => Fin ms o (.dat (e_t2t2t2iit2iit2ii v)))
  unfold m_led_behind at h
  show Ex _ _ [.dat (e_t2t2t2iit2iit2ii v_whole_move), .dat (e_t2t2t2iit2iit2ii v_far_move), .un, .un, .un] _ _
  obtain ⟨t1, ht1, h⟩ := bindS h
  refine ex_cons (ss_drop (fun _ => rfl) (ee_call g_require_whole_move (Nat.le_of_ble_eq_true rfl) (by rfl) (ea_cons (fun _ _ _ p q => pa_cons p q) (ee_var 0 rfl (Or.inl rfl) rfl) (ea_cons (fun _ _ _ p q => pa_cons p q) (ee_var 1 rfl (Or.inl rfl) rfl) ea_nil)) ⟨[(e_t2t2t2iit2iit2ii v_whole_move), (e_t2t2t2iit2iit2ii v_far_move)], rfl, (lnOk 2 rfl (by decide)), rfl, t1, ht1, rfl⟩ (mu_dat (mu_dat mu_nil)))) ?_
  obtain ⟨t2, ht2, h⟩ := bindS h
  refine ex_cons (ss_asgS (fun _ => rfl) (fun X hX => (sw_env (env' := env0 (defScope s_led_behind)) hX.sc _ _).trans rfl) (fun _ => rfl) (ee_call g_led_in (Nat.le_of_ble_eq_true rfl) (by rfl) (ea_cons (fun _ _ _ p q => pa_cons p q) (ee_var 1 rfl (Or.inl rfl) rfl) (ea_cons (fun _ _ _ p q => pa_cons p q) (ee_tup (ea_starT [(.int v_whole_move.2.1), (.int v_whole_move.2.2)] (ee_ixT (fun X _ _ p q => pe_ix ix_tup p q (fun _ _ => rfl)) (ee_var 0 rfl (Or.inl rfl) rfl) ee_int (by rfl)) (ea_cons (fun _ _ _ p q => pa_cons p q) ee_int ea_nil)) rfl (lnOk 3 rfl (by decide))) ea_nil)) ⟨v_far_move, (v_whole_move.2.1, v_whole_move.2.2, 1), rfl, rfl, t2, ht2, rfl⟩ (mu_dat (mu_dat mu_nil))) rfl (eg_tup (fun _ => rfl) (fun _ => rfl) (egs_cons (fun _ _ _ p q => pgs_cons p q) (eg_name 2 sc_led_behind.nd rfl (Or.inl rfl) (.inl rfl)) (egs_cons (fun _ _ _ p q => pgs_cons p q) (eg_name 3 sc_led_behind.nd rfl (Or.inl rfl) (.inl rfl)) (egs_cons (fun _ _ _ p q => pgs_cons p q) (eg_name 4 sc_led_behind.nd rfl (Or.inl rfl) (.inl rfl)) egs_nil))))) ?_
  show Ex _ _ [.dat (e_t2t2t2iit2iit2ii v_whole_move), .dat (e_t2t2t2iit2iit2ii v_far_move), .dat (.int t2.1), .dat (.int t2.2.1), .dat (.int t2.2.2)] _ _
  obtain ⟨t3, ht3, h⟩ := bindS h
  obtain rfl := someS h
  exact ex_out (ss_ret (ee_tup (ea_cons (fun _ _ _ p q => pa_cons p q) (ee_call g_led_rows (Nat.le_of_ble_eq_true rfl) (by rfl) (ea_cons (fun _ _ _ p q => pa_cons p q) (ee_ixT (fun X _ _ p q => pe_ix ix_tup p q (fun _ _ => rfl)) (ee_var 0 rfl (Or.inl rfl) rfl) ee_int (by rfl)) (ea_cons (fun _ _ _ p q => pa_cons p q) (ee_ixT (fun X _ _ p q => pe_ix ix_tup p q (fun _ _ => rfl)) (ee_var 1 rfl (Or.inl rfl) rfl) ee_int (by rfl)) ea_nil)) ⟨v_whole_move.1, v_far_move.1, rfl, rfl, t3, ht3, rfl⟩ (mu_dat (mu_dat mu_nil))) (ea_cons (fun _ _ _ p q => pa_cons p q) (ee_tup (ea_cons (fun _ _ _ p q => pa_cons p q) (ee_var 2 rfl (Or.inl rfl) rfl) (ea_cons (fun _ _ _ p q => pa_cons p q) (ee_var 3 rfl (Or.inl rfl) rfl) ea_nil)) rfl (lnOk 2 rfl (by decide))) ea_nil)) rfl (lnOk 2 rfl (by decide)))) rfl fin_dat

def s__law_made : Stmt := topS 46
def nm__law_made : List Str := ["steps", "found", "step"]
theorem sc__law_made : FnScope nm__law_made ["steps"] (defScope s__law_made) := ⟨rfl, rfl, rfl, by decide +kernel, rfl, by decide +kernel, by decide +kernel⟩
def m__law_made (v_steps : (List (((Int × Int) × (Int × Int)) × (Int × Int)))) : Option ((((Int × Int) × (Int × Int)) × (Int × Int))) := (m__law_still ).bind fun t1 => (forS (fun (x3 : (((Int × Int) × (Int × Int)) × (Int × Int))) (s2 : (((Int × Int) × (Int × Int)) × (Int × Int))) => (m_led_behind s2 x3).bind fun t6 => some t6) (v_steps : List (((Int × Int) × (Int × Int)) × (Int × Int))) t1).bind fun s5 => some s5
def R__law_made : Rel := fun rs ms r ms2 => ∃ (v_steps : (List (((Int × Int) × (Int × Int)) × (Int × Int)))), rs = [.dat (e_lt2t2t2iit2iit2ii v_steps)] ∧ ms2 = ms ∧ ∃ v : (((Int × Int) × (Int × Int)) × (Int × Int)), m__law_made v_steps = some v ∧ r = .dat (e_t2t2t2iit2iit2ii v)
theorem kn__law_made (T : Txt K mg) {f : Addr} {fd : FuncData} (Fu : Fun K "_law_made" "_law_made" s__law_made f fd) (hmf : mg "_law_made" = some (.ref f)) (g__law_still : Kn P w K mg base 1 "_law_still" R__law_still) (g_led_behind : Kn P w K mg base 6 "led_behind" R_led_behind) : Kn P w K mg base 7 "_law_made" R__law_made := by
  have hb := Fu.binds (ps := ["steps"]) fun _ _ _ _ _ _ us hl => match us, hl with | [_], _ => rfl
  refine kn_of (kk := 6) Fu sc__law_made hb hmf rfl (by decide) (by rintro rs ms0 r ms ⟨v_steps, rfl, rfl, v, h, rfl⟩; exact ⟨rfl, rfl⟩) ?_
  rintro rs ms0 r ms ⟨v_steps, rfl, rfl, v, h, rfl⟩
  show Ex _ _ [.dat (e_lt2t2t2iit2iit2ii v_steps), .un, .un] ms (fun o => Fin ms o (.dat (e_t2t2t2iit2iit2ii v)))
  unfold m__law_made at h
  show Ex _ _ [.dat (e_lt2t2t2iit2iit2ii v_steps), .un, .un] _ _
  obtain ⟨t1, ht1, h⟩ := bindS h
  refine ex_cons (ss_set 1 sc__law_made.nd rfl (Or.inl rfl) (.inl rfl) (fun _ => rfl) (ee_call0 g__law_still (Nat.le_of_ble_eq_true rfl) (by rfl) ⟨rfl, rfl, t1, ht1, rfl⟩) rfl) ?_
  show Ex _ _ [.dat (e_lt2t2t2iit2iit2ii v_steps), .dat (e_t2t2t2iit2iit2ii t1), .un] _ _
  obtain ⟨s5, hs5, h⟩ := bindS h
  refine ex_cons (ss_forS (s0 := t1) e_t2t2t2iit2iit2ii _ _ (fun s2 : (((Int × Int) × (Int × Int)) × (Int × Int)) => [.dat (e_lt2t2t2iit2iit2ii v_steps), .dat (e_t2t2t2iit2iit2ii s2), .un]) (fun s2 : (((Int × Int) × (Int × Int)) × (Int × Int)) => ms) (ms.length) (fun _ _ => rfl) (it_list (ds := (v_steps : List (((Int × Int) × (Int × Int)) × (Int × Int))).map e_t2t2t2iit2iit2ii) (fun X _ h => pi_list h) (ee_var 0 rfl (Or.inl rfl) rfl) rfl) (fun _ => rfl) (fun _ => rfl) (.cons .dat (.cons .dat (.cons .un .nil)))
    (fun x3 _ s2 s4 h => ⟨_, _, (eg_name 2 sc__law_made.nd rfl (Or.inl rfl) (.inl rfl)), by
      show Ex _ _ [.dat (e_lt2t2t2iit2iit2ii v_steps), .dat (e_t2t2t2iit2iit2ii s2), .dat (e_t2t2t2iit2iit2ii x3)] _ _
      obtain ⟨t6, ht6, h⟩ := bindS h
      refine ex_cons (ss_set 1 sc__law_made.nd rfl (Or.inl rfl) (.inl rfl) (fun _ => rfl) (ee_call g_led_behind (Nat.le_of_ble_eq_true rfl) (by rfl) (ea_cons (fun _ _ _ p q => pa_cons p q) (ee_var 1 rfl (Or.inl rfl) rfl) (ea_cons (fun _ _ _ p q => pa_cons p q) (ee_var 2 rfl (Or.inl rfl) rfl) ea_nil)) ⟨s2, x3, rfl, rfl, t6, ht6, rfl⟩ (mu_dat (mu_dat mu_nil))) rfl) ?_
      obtain rfl := someS h
      exact ex_nil (turn_go (.cons .dat (.cons .dat (.cons .un .nil))))
    ⟩) hs5) ?_
  show Ex _ _ [.dat (e_lt2t2t2iit2iit2ii v_steps), .dat (e_t2t2t2iit2iit2ii s5), .un] _ _
  obtain rfl := someS h
  exact ex_out (ss_ret (ee_var 1 rfl (Or.inl rfl) rfl)) rfl fin_dat

def s_is_whole_move : Stmt := topS 30
def nm_is_whole_move : List Str := ["value"]
theorem sc_is_whole_move : FnScope nm_is_whole_move ["value"] (defScope s_is_whole_move) := ⟨rfl, rfl, rfl, by decide +kernel, rfl, by decide +kernel, by decide +kernel⟩
def m_is_whole_move (v_value : D) : Option (Bool) := (m_is_whole_move_of v_value).bind fun t1 => some t1
def R_is_whole_move : Rel := fun rs ms r ms2 => ∃ (v_value : D), rs = [.dat v_value] ∧ ms2 = ms ∧ ∃ v : Bool, m_is_whole_move v_value = some v ∧ r = .dat (.bool v)
theorem kn_is_whole_move (T : Txt K mg) {f : Addr} {fd : FuncData} (Fu : Fun K "is_whole_move" "is_whole_move" s_is_whole_move f fd) (hmf : mg "is_whole_move" = some (.ref f)) (g_is_whole_move_of : Kn P w K mg base 4 "is_whole_move_of" R_is_whole_move_of) : Kn P w K mg base 5 "is_whole_move" R_is_whole_move := by
  have hb := Fu.binds (ps := ["value"]) fun _ _ _ _ _ _ us hl => match us, hl with | [_], _ => rfl
  refine kn_of (kk := 4) Fu sc_is_whole_move hb hmf rfl (by decide) (by rintro rs ms0 r ms ⟨v_value, rfl, rfl, v, h, rfl⟩; exact ⟨rfl, rfl⟩) ?_
  rintro rs ms0 r ms ⟨v_value, rfl, rfl, v, h, rfl⟩
  show Ex _ _ [.dat v_value] ms (fun o => Fin ms o (.dat (.bool v)))
  unfold m_is_whole_move at h
  show Ex _ _ [.dat v_value] _ _
  obtain ⟨t1, ht1, h⟩ := bindS h
  obtain rfl := someS h
  exact ex_out (ss_ret (ee_call g_is_whole_move_of (Nat.le_of_ble_eq_true rfl) (by rfl) (ea_cons (fun _ _ _ p q => pa_cons p q) (ee_var 0 rfl (Or.inl rfl) rfl) ea_nil) ⟨v_value, rfl, rfl, t1, ht1, rfl⟩ (mu_dat mu_nil))) rfl fin_dat

def s_common : Stmt := topS 8
def nm_common : List Str := ["one", "far"]
theorem sc_common : FnScope nm_common ["one", "far"] (defScope s_common) := ⟨rfl, rfl, rfl, by decide +kernel, rfl, by decide +kernel, by decide +kernel⟩
def m_common (v_one : Int) (v_far : Int) : Option (Int) := (whileS (fun s1 : Int × Int => some (decide (0 < s1.2))) (fun s1 : Int × Int => (modO s1.1 s1.2).bind fun t5 => some (s1.2, t5)) FUEL ((v_one.natAbs : Int), (v_far.natAbs : Int))).bind fun s3 => some s3.1
def R_common : Rel := fun rs ms r ms2 => ∃ (v_one : Int) (v_far : Int), rs = [.dat (.int v_one), .dat (.int v_far)] ∧ ms2 = ms ∧ ∃ v : Int, m_common v_one v_far = some v ∧ r = .dat (.int v)
theorem kn_common (T : Txt K mg) {f : Addr} {fd : FuncData} (Fu : Fun K "common" "common" s_common f fd) (hmf : mg "common" = some (.ref f))  : Kn P w K mg base 1 "common" R_common := by
  have hb := Fu.binds (ps := ["one", "far"]) fun _ _ _ _ _ _ us hl => match us, hl with | [_, _], _ => rfl
  refine kn_of (kk := 0) Fu sc_common hb hmf rfl (by decide) (by rintro rs ms0 r ms ⟨v_one, v_far, rfl, rfl, v, h, rfl⟩; exact ⟨rfl, rfl⟩) ?_
  rintro rs ms0 r ms ⟨v_one, v_far, rfl, rfl, v, h, rfl⟩
  show Ex _ _ [.dat (.int v_one), .dat (.int v_far)] ms (fun o => Fin ms o (.dat (.int v)))
  unfold m_common at h
  show Ex _ _ [.dat (.int v_one), .dat (.int v_far)] _ _
  refine ex_cons (ss_par 0 1 sc_common.nd rfl rfl (by decide) rfl rfl (fun X hX => (sw_env (env' := env0 (defScope s_common)) hX.sc _ _).trans rfl) (ea_cons (fun _ _ _ p q => pa_cons p q) (ee_abs T.abs (by rfl) (ea_cons (fun _ _ _ p q => pa_cons p q) (ee_var 0 rfl (Or.inl rfl) rfl) ea_nil)) (ea_cons (fun _ _ _ p q => pa_cons p q) (ee_abs T.abs (by rfl) (ea_cons (fun _ _ _ p q => pa_cons p q) (ee_var 1 rfl (Or.inl rfl) rfl) ea_nil)) ea_nil)) rfl rfl) ?_
  show Ex _ _ [.dat (.int (v_one.natAbs : Int)), .dat (.int (v_far.natAbs : Int))] _ _
  obtain ⟨s3, hs3, h⟩ := bindS h
  refine ex_cons (ss_whileS (s0 := ((v_one.natAbs : Int), (v_far.natAbs : Int))) _ _ (fun s1 : Int × Int => [.dat (.int s1.1), .dat (.int s1.2)]) (fun s1 : Int × Int => ms) (ms.length) _ rfl (fun _ => rfl) (.cons .dat (.cons .dat .nil))
    (fun s1 t4 h => by
      obtain rfl := someS h
      exact (et_gt (nobehind _ (by decide) (by decide)) (ee_var 1 rfl (Or.inl rfl) rfl) ee_int)
    ) (fun s1 s2 _ h => by
      show Ex _ _ [.dat (.int s1.1), .dat (.int s1.2)] _ _
      obtain ⟨t5, ht5, h⟩ := bindS h
      refine ex_cons (ss_par 0 1 sc_common.nd rfl rfl (by decide) rfl rfl (fun X hX => (sw_env (env' := env0 (defScope s_common)) hX.sc _ _).trans rfl) (ea_cons (fun _ _ _ p q => pa_cons p q) (ee_var 1 rfl (Or.inl rfl) rfl) (ea_cons (fun _ _ _ p q => pa_cons p q) (ee_modO (ee_var 0 rfl (Or.inl rfl) rfl) (ee_var 1 rfl (Or.inl rfl) rfl) ht5) ea_nil)) rfl rfl) ?_
      obtain rfl := someS h
      exact ex_nil (turn_go (.cons .dat (.cons .dat .nil)))
    ) hs3) ?_
  show Ex _ _ [.dat (.int s3.1), .dat (.int s3.2)] _ _
  obtain rfl := someS h
  exact ex_out (ss_ret (ee_var 0 rfl (Or.inl rfl) rfl)) rfl fin_dat

def s_is_point_of : Stmt := topS 10
def nm_is_point_of : List Str := ["value", "one"]
theorem sc_is_point_of : FnScope nm_is_point_of ["value"] (defScope s_is_point_of) := ⟨rfl, rfl, rfl, by decide +kernel, rfl, by decide +kernel, by decide +kernel⟩
def m_is_point_of (v_value : (Int × Int × Int)) : Option (Bool) := (if (!true) = true then some true else ((if (decide (3 ≠ 3)) = true then some true else ((szO ([v_value.1, v_value.2.1, v_value.2.2] : List Int)).bind fun t1 => (mapO (fun (x2 : Int) => (m_is_within (.int x2) (-999999999999999999999999999999999999999999999999999999999999) 999999999999999999999999999999999999999999999999999999999999).bind fun t5 => some t5) ([v_value.1, v_value.2.1, v_value.2.2] : List Int)).bind fun t6 => some (!((t6 : List Bool).all id)))).bind fun t8 => some t8)).bind fun t10 => if t10 = true then (some false) else ((if (decide (0 < v_value.2.2)) = true then ((m_common v_value.1 v_value.2.1).bind fun t12 => (m_common t12 v_value.2.2).bind fun t13 => some (decide (t13 = 1))) else some false).bind fun t14 => some t14)
def R_is_point_of : Rel := fun rs ms r ms2 => ∃ (v_value : (Int × Int × Int)), rs = [.dat (e_t3iii v_value)] ∧ ms2 = ms ∧ ∃ v : Bool, m_is_point_of v_value = some v ∧ r = .dat (.bool v)
theorem kn_is_point_of (T : Txt K mg) {f : Addr} {fd : FuncData} (Fu : Fun K "is_point_of" "is_point_of" s_is_point_of f fd) (hmf : mg "is_point_of" = some (.ref f)) (g_is_within : Kn P w K mg base 1 "is_within" R_is_within) (g_common : Kn P w K mg base 1 "common" R_common) : Kn P w K mg base 2 "is_point_of" R_is_point_of := by
  have hb := Fu.binds (ps := ["value"]) fun _ _ _ _ _ _ us hl => match us, hl with | [_], _ => rfl
  refine kn_of (kk := 1) Fu sc_is_point_of hb hmf rfl (by decide) (by rintro rs ms0 r ms ⟨v_value, rfl, rfl, v, h, rfl⟩; exact ⟨rfl, rfl⟩) ?_
  rintro rs ms0 r ms ⟨v_value, rfl, rfl, v, h, rfl⟩
  show Ex _ _ [.dat (e_t3iii v_value), .un] ms (fun o => Fin ms o (.dat (.bool v)))
  unfold m_is_point_of at h
  show Ex _ _ [.dat (e_t3iii v_value), .un] _ _
  obtain ⟨t10, ht10, h⟩ := bindS h
  rcases boolCases t10 with hc11 | hc11
  · have h := iteT' hc11 h
    refine ex_ifT (et_w (ew_orO (et_not (et_val (fun _ _ => rfl) (ee_isi T.isinstance (by rfl) (isi_tuple (e_t3iii v_value)) (ea_cons (fun _ _ _ p q => pa_cons p q) (ee_var 0 rfl (Or.inl rfl) rfl) (ea_cons (fun _ _ _ p q => pa_cons p q) (ee_ty T.tuple (by rfl) bt_tuple) ea_nil))))) ht10 (fun _ g9 => by obtain ⟨t8, ht8, g9⟩ := bindS g9; obtain rfl := someS g9; exact (ew_orO (et_neI (nobehind _ (by decide) (by decide)) (ee_is (ee_lenT T.len (by rfl) (ea_cons (fun _ _ _ p q => pa_cons p q) (ee_var 0 rfl (Or.inl rfl) rfl) ea_nil)) rfl) ee_int) ht8 (fun _ g7 => by obtain ⟨t1, ht1, g7⟩ := bindS g7; obtain ⟨t6, ht6, g7⟩ := bindS g7; obtain rfl := someS g7; exact (ew_or1 (et_not (et_val (fun _ _ => rfl) (ee_all T.all (by rfl) (ea_cons (fun _ _ _ p q => pa_cons p q) (ee_lcP [("one", 1)] PyData.int PyData.bool ([v_value.1, v_value.2.1, v_value.2.2] : List Int) _ sc_is_point_of.nd (blkOk_by (N := nm_is_point_of) (sc := defScope s_is_point_of) (by decide +kernel)) (fun _ _ => rfl) (it_tup (ds := ([v_value.1, v_value.2.1, v_value.2.2] : List Int).map PyData.int) (fun X _ h => pi_tup h) (ee_var 0 rfl (Or.inl rfl) rfl)) (fun _ => trivial) (by first | exact Nat.le_refl _ | (simp only [List.length_append, MD_len, M2_len, List.length_cons, List.length_nil, Sx.blk]; omega)) (fun x2 _ y4 ex g3 => by obtain ⟨t5, ht5, g3⟩ := bindS g3; obtain rfl := someS g3; exact ⟨_, _, by decide, (eg_name 1 sc_is_point_of.nd rfl (Or.inl rfl) (.inr rfl)), _, (ee_call g_is_within (Nat.le_of_ble_eq_true rfl) (by rfl) (ea_cons (fun _ _ _ p q => pa_cons p q) (ee_var 1 rfl (Or.inl rfl) rfl) (ea_cons (fun _ _ _ p q => pa_cons p q) (ee_neg (ee_gint T.c_GREAT (by rfl))) (ea_cons (fun _ _ _ p q => pa_cons p q) (ee_gint T.c_GREAT (by rfl)) ea_nil))) ⟨(.int x2), (-999999999999999999999999999999999999999999999999999999999999), 999999999999999999999999999999999999999999999999999999999999, rfl, rfl, t5, ht5, rfl⟩ (mu_dat (mu_dat (mu_dat mu_nil)))), rfl⟩) ht6 (szO_some ht1).1) ea_nil) rfl))))))))) hc11 ?_
    obtain rfl := someS h
    exact ex_out (ss_ret ee_bool) rfl fin_dat
  · have h := iteF' hc11 h
    refine ex_ifF0 (et_w (ew_orO (et_not (et_val (fun _ _ => rfl) (ee_isi T.isinstance (by rfl) (isi_tuple (e_t3iii v_value)) (ea_cons (fun _ _ _ p q => pa_cons p q) (ee_var 0 rfl (Or.inl rfl) rfl) (ea_cons (fun _ _ _ p q => pa_cons p q) (ee_ty T.tuple (by rfl) bt_tuple) ea_nil))))) ht10 (fun _ g9 => by obtain ⟨t8, ht8, g9⟩ := bindS g9; obtain rfl := someS g9; exact (ew_orO (et_neI (nobehind _ (by decide) (by decide)) (ee_is (ee_lenT T.len (by rfl) (ea_cons (fun _ _ _ p q => pa_cons p q) (ee_var 0 rfl (Or.inl rfl) rfl) ea_nil)) rfl) ee_int) ht8 (fun _ g7 => by obtain ⟨t1, ht1, g7⟩ := bindS g7; obtain ⟨t6, ht6, g7⟩ := bindS g7; obtain rfl := someS g7; exact (ew_or1 (et_not (et_val (fun _ _ => rfl) (ee_all T.all (by rfl) (ea_cons (fun _ _ _ p q => pa_cons p q) (ee_lcP [("one", 1)] PyData.int PyData.bool ([v_value.1, v_value.2.1, v_value.2.2] : List Int) _ sc_is_point_of.nd (blkOk_by (N := nm_is_point_of) (sc := defScope s_is_point_of) (by decide +kernel)) (fun _ _ => rfl) (it_tup (ds := ([v_value.1, v_value.2.1, v_value.2.2] : List Int).map PyData.int) (fun X _ h => pi_tup h) (ee_var 0 rfl (Or.inl rfl) rfl)) (fun _ => trivial) (by first | exact Nat.le_refl _ | (simp only [List.length_append, MD_len, M2_len, List.length_cons, List.length_nil, Sx.blk]; omega)) (fun x2 _ y4 ex g3 => by obtain ⟨t5, ht5, g3⟩ := bindS g3; obtain rfl := someS g3; exact ⟨_, _, by decide, (eg_name 1 sc_is_point_of.nd rfl (Or.inl rfl) (.inr rfl)), _, (ee_call g_is_within (Nat.le_of_ble_eq_true rfl) (by rfl) (ea_cons (fun _ _ _ p q => pa_cons p q) (ee_var 1 rfl (Or.inl rfl) rfl) (ea_cons (fun _ _ _ p q => pa_cons p q) (ee_neg (ee_gint T.c_GREAT (by rfl))) (ea_cons (fun _ _ _ p q => pa_cons p q) (ee_gint T.c_GREAT (by rfl)) ea_nil))) ⟨(.int x2), (-999999999999999999999999999999999999999999999999999999999999), 999999999999999999999999999999999999999999999999999999999999, rfl, rfl, t5, ht5, rfl⟩ (mu_dat (mu_dat (mu_dat mu_nil)))), rfl⟩) ht6 (szO_some ht1).1) ea_nil) rfl))))))))) hc11 ?_
    obtain ⟨t14, ht14, h⟩ := bindS h
    obtain rfl := someS h
    exact ex_out (ss_ret (ee_andO (ee_gt (nobehind _ (by decide) (by decide)) (ee_ixT (fun X _ _ p q => pe_ix ix_tup p q (fun _ _ => rfl)) (ee_var 0 rfl (Or.inl rfl) rfl) ee_int (by rfl)) ee_int) ht14 (fun _ g15 => by obtain ⟨t12, ht12, g15⟩ := bindS g15; obtain ⟨t13, ht13, g15⟩ := bindS g15; obtain rfl := someS g15; exact (ee_one (ee_eqI (nobehind _ (by decide) (by decide)) (ee_call g_common (Nat.le_of_ble_eq_true rfl) (by rfl) (ea_cons (fun _ _ _ p q => pa_cons p q) (ee_call g_common (Nat.le_of_ble_eq_true rfl) (by rfl) (ea_cons (fun _ _ _ p q => pa_cons p q) (ee_ixT (fun X _ _ p q => pe_ix ix_tup p q (fun _ _ => rfl)) (ee_var 0 rfl (Or.inl rfl) rfl) ee_int (by rfl)) (ea_cons (fun _ _ _ p q => pa_cons p q) (ee_ixT (fun X _ _ p q => pe_ix ix_tup p q (fun _ _ => rfl)) (ee_var 0 rfl (Or.inl rfl) rfl) ee_int (by rfl)) ea_nil)) ⟨v_value.1, v_value.2.1, rfl, rfl, t12, ht12, rfl⟩ (mu_dat (mu_dat mu_nil))) (ea_cons (fun _ _ _ p q => pa_cons p q) (ee_ixT (fun X _ _ p q => pe_ix ix_tup p q (fun _ _ => rfl)) (ee_var 0 rfl (Or.inl rfl) rfl) ee_int (by rfl)) ea_nil)) ⟨t12, v_value.2.2, rfl, rfl, t13, ht13, rfl⟩ (mu_dat (mu_dat mu_nil))) ee_int))))) rfl fin_dat

def s_is_whole_in : Stmt := topS 15
def nm_is_whole_in : List Str := ["points", "point"]
theorem sc_is_whole_in : FnScope nm_is_whole_in ["points"] (defScope s_is_whole_in) := ⟨rfl, rfl, rfl, by decide +kernel, rfl, by decide +kernel, by decide +kernel⟩
def m_is_whole_in (v_points : (List (Int × Int × Int))) : Option (Bool) := (szO (v_points : List (Int × Int × Int))).bind fun t1 => (mapO (fun (x2 : (Int × Int × Int)) => some (decide (x2.2.2 = 1))) (v_points : List (Int × Int × Int))).bind fun t5 => some ((t5 : List Bool).all id)
def R_is_whole_in : Rel := fun rs ms r ms2 => ∃ (v_points : (List (Int × Int × Int))), rs = [.dat (e_ut3iii v_points)] ∧ ms2 = ms ∧ ∃ v : Bool, m_is_whole_in v_points = some v ∧ r = .dat (.bool v)
theorem kn_is_whole_in (T : Txt K mg) {f : Addr} {fd : FuncData} (Fu : Fun K "is_whole_in" "is_whole_in" s_is_whole_in f fd) (hmf : mg "is_whole_in" = some (.ref f))  : Kn P w K mg base 1 "is_whole_in" R_is_whole_in := by
  have hb := Fu.binds (ps := ["points"]) fun _ _ _ _ _ _ us hl => match us, hl with | [_], _ => rfl
  refine kn_of (kk := 0) Fu sc_is_whole_in hb hmf rfl (by decide) (by rintro rs ms0 r ms ⟨v_points, rfl, rfl, v, h, rfl⟩; exact ⟨rfl, rfl⟩) ?_
  rintro rs ms0 r ms ⟨v_points, rfl, rfl, v, h, rfl⟩
  show Ex _ _ [.dat (e_ut3iii v_points), .un] ms (fun o => Fin ms o (.dat (.bool v)))
  unfold m_is_whole_in at h
  show Ex _ _ [.dat (e_ut3iii v_points), .un] _ _
  obtain ⟨t1, ht1, h⟩ := bindS h
  obtain ⟨t5, ht5, h⟩ := bindS h
  obtain rfl := someS h
  exact ex_out (ss_ret (ee_all T.all (by rfl) (ea_cons (fun _ _ _ p q => pa_cons p q) (ee_lcP [("point", 1)] e_t3iii PyData.bool (v_points : List (Int × Int × Int)) _ sc_is_whole_in.nd (blkOk_by (N := nm_is_whole_in) (sc := defScope s_is_whole_in) (by decide +kernel)) (fun _ _ => rfl) (it_tup (ds := (v_points : List (Int × Int × Int)).map e_t3iii) (fun X _ h => pi_tup h) (ee_var 0 rfl (Or.inl rfl) rfl)) (fun _ => trivial) (by first | exact Nat.le_refl _ | (simp only [List.length_append, MD_len, M2_len, List.length_cons, List.length_nil, Sx.blk]; omega)) (fun x2 _ y4 ex g3 => by obtain rfl := someS g3; exact ⟨_, _, by decide, (eg_name 1 sc_is_whole_in.nd rfl (Or.inl rfl) (.inr rfl)), _, (ee_eqI (nobehind _ (by decide) (by decide)) (ee_ixT (fun X _ _ p q => pe_ix ix_tup p q (fun _ _ => rfl)) (ee_var 1 rfl (Or.inl rfl) rfl) ee_int (by rfl)) ee_int), rfl⟩) ht5 (szO_some ht1).1) ea_nil) rfl)) rfl fin_dat

def s_require_points : Stmt := topS 25
def nm_require_points : List Str := ["points", "point"]
theorem sc_require_points : FnScope nm_require_points ["points"] (defScope s_require_points) := ⟨rfl, rfl, rfl, by decide +kernel, rfl, by decide +kernel, by decide +kernel⟩
def m_require_points (v_points : (List (Int × Int × Int))) : Option (Unit) := if ((!true) || (!(decide (1 ≤ (v_points.length : Int)) && decide ((v_points.length : Int) ≤ 40)))) = true then (none) else ((szO (v_points : List (Int × Int × Int))).bind fun t2 => (mapO (fun (x3 : (Int × Int × Int)) => (m_is_point_of x3).bind fun t6 => some t6) (v_points : List (Int × Int × Int))).bind fun t7 => (if (!((t7 : List Bool).all id)) = true then some true else ((m_is_whole_in v_points).bind fun t8 => some (!t8))).bind fun t10 => if t10 = true then (none) else (some ()))
def R_require_points : Rel := fun rs ms r ms2 => ∃ (v_points : (List (Int × Int × Int))), rs = [.dat (e_ut3iii v_points)] ∧ ms2 = ms ∧ ∃ v : Unit, m_require_points v_points = some v ∧ r = .dat .none
theorem kn_require_points (T : Txt K mg) {f : Addr} {fd : FuncData} (Fu : Fun K "require_points" "require_points" s_require_points f fd) (hmf : mg "require_points" = some (.ref f)) (g_is_point_of : Kn P w K mg base 2 "is_point_of" R_is_point_of) (g_is_whole_in : Kn P w K mg base 1 "is_whole_in" R_is_whole_in) : Kn P w K mg base 3 "require_points" R_require_points := by
  have hb := Fu.binds (ps := ["points"]) fun _ _ _ _ _ _ us hl => match us, hl with | [_], _ => rfl
  refine kn_of (kk := 2) Fu sc_require_points hb hmf rfl (by decide) (by rintro rs ms0 r ms ⟨v_points, rfl, rfl, v, h, rfl⟩; exact ⟨rfl, rfl⟩) ?_
  rintro rs ms0 r ms ⟨v_points, rfl, rfl, v, h, rfl⟩
  show Ex _ _ [.dat (e_ut3iii v_points), .un] ms (fun o => Fin ms o (.dat .none))
  unfold m_require_points at h
  show Ex _ _ [.dat (e_ut3iii v_points), .un] _ _
  rcases boolCases ((!true) || (!(decide (1 ≤ (v_points.length : Int)) && decide ((v_points.length : Int) ≤ 40)))) with hc1 | hc1
  · have h := iteT' hc1 h
    refine ex_ifT (et_w (ew_orV (et_not (et_val (fun _ _ => rfl) (ee_isi T.isinstance (by rfl) (isi_tuple (e_ut3iii v_points)) (ea_cons (fun _ _ _ p q => pa_cons p q) (ee_var 0 rfl (Or.inl rfl) rfl) (ea_cons (fun _ _ _ p q => pa_cons p q) (ee_ty T.tuple (by rfl) bt_tuple) ea_nil))))) (fun _ => (ew_or1 (et_not (et_chain (fun _ => op_le) (fun _ => op_le) (by with_unfolding_all rfl) ee_int (ee_is (ee_lenT T.len (by rfl) (ea_cons (fun _ _ _ p q => pa_cons p q) (ee_var 0 rfl (Or.inl rfl) rfl) ea_nil)) (by rw [List.length_map])) (ee_gint T.c_MOST_POINTS (by rfl)))))))) hc1 ?_
    cases h
  · have h := iteF' hc1 h
    refine ex_ifF0 (et_w (ew_orV (et_not (et_val (fun _ _ => rfl) (ee_isi T.isinstance (by rfl) (isi_tuple (e_ut3iii v_points)) (ea_cons (fun _ _ _ p q => pa_cons p q) (ee_var 0 rfl (Or.inl rfl) rfl) (ea_cons (fun _ _ _ p q => pa_cons p q) (ee_ty T.tuple (by rfl) bt_tuple) ea_nil))))) (fun _ => (ew_or1 (et_not (et_chain (fun _ => op_le) (fun _ => op_le) (by with_unfolding_all rfl) ee_int (ee_is (ee_lenT T.len (by rfl) (ea_cons (fun _ _ _ p q => pa_cons p q) (ee_var 0 rfl (Or.inl rfl) rfl) ea_nil)) (by rw [List.length_map])) (ee_gint T.c_MOST_POINTS (by rfl)))))))) hc1 ?_
    obtain ⟨t2, ht2, h⟩ := bindS h
    obtain ⟨t7, ht7, h⟩ := bindS h
    obtain ⟨t10, ht10, h⟩ := bindS h
    rcases boolCases t10 with hc11 | hc11
    · have h := iteT' hc11 h
      refine ex_ifT (et_w (ew_orO (et_not (et_val (fun _ _ => rfl) (ee_all T.all (by rfl) (ea_cons (fun _ _ _ p q => pa_cons p q) (ee_lcP [("point", 1)] e_t3iii PyData.bool (v_points : List (Int × Int × Int)) _ sc_require_points.nd (blkOk_by (N := nm_require_points) (sc := defScope s_require_points) (by decide +kernel)) (fun _ _ => rfl) (it_tup (ds := (v_points : List (Int × Int × Int)).map e_t3iii) (fun X _ h => pi_tup h) (ee_var 0 rfl (Or.inl rfl) rfl)) (fun _ => trivial) (by first | exact Nat.le_refl _ | (simp only [List.length_append, MD_len, M2_len, List.length_cons, List.length_nil, Sx.blk]; omega)) (fun x3 _ y5 ex g4 => by obtain ⟨t6, ht6, g4⟩ := bindS g4; obtain rfl := someS g4; exact ⟨_, _, by decide, (eg_name 1 sc_require_points.nd rfl (Or.inl rfl) (.inr rfl)), _, (ee_call g_is_point_of (Nat.le_of_ble_eq_true rfl) (by rfl) (ea_cons (fun _ _ _ p q => pa_cons p q) (ee_var 1 rfl (Or.inl rfl) rfl) ea_nil) ⟨x3, rfl, rfl, t6, ht6, rfl⟩ (mu_dat mu_nil)), rfl⟩) ht7 (szO_some ht2).1) ea_nil) rfl))) ht10 (fun _ g9 => by obtain ⟨t8, ht8, g9⟩ := bindS g9; obtain rfl := someS g9; exact (ew_or1 (et_not (et_val (fun _ _ => rfl) (ee_call g_is_whole_in (Nat.le_of_ble_eq_true rfl) (by rfl) (ea_cons (fun _ _ _ p q => pa_cons p q) (ee_var 0 rfl (Or.inl rfl) rfl) ea_nil) ⟨v_points, rfl, rfl, t8, ht8, rfl⟩ (mu_dat mu_nil)))))))) hc11 ?_
      cases h
    · have h := iteF' hc11 h
      refine ex_ifF0 (et_w (ew_orO (et_not (et_val (fun _ _ => rfl) (ee_all T.all (by rfl) (ea_cons (fun _ _ _ p q => pa_cons p q) (ee_lcP [("point", 1)] e_t3iii PyData.bool (v_points : List (Int × Int × Int)) _ sc_require_points.nd (blkOk_by (N := nm_require_points) (sc := defScope s_require_points) (by decide +kernel)) (fun _ _ => rfl) (it_tup (ds := (v_points : List (Int × Int × Int)).map e_t3iii) (fun X _ h => pi_tup h) (ee_var 0 rfl (Or.inl rfl) rfl)) (fun _ => trivial) (by first | exact Nat.le_refl _ | (simp only [List.length_append, MD_len, M2_len, List.length_cons, List.length_nil, Sx.blk]; omega)) (fun x3 _ y5 ex g4 => by obtain ⟨t6, ht6, g4⟩ := bindS g4; obtain rfl := someS g4; exact ⟨_, _, by decide, (eg_name 1 sc_require_points.nd rfl (Or.inl rfl) (.inr rfl)), _, (ee_call g_is_point_of (Nat.le_of_ble_eq_true rfl) (by rfl) (ea_cons (fun _ _ _ p q => pa_cons p q) (ee_var 1 rfl (Or.inl rfl) rfl) ea_nil) ⟨x3, rfl, rfl, t6, ht6, rfl⟩ (mu_dat mu_nil)), rfl⟩) ht7 (szO_some ht2).1) ea_nil) rfl))) ht10 (fun _ g9 => by obtain ⟨t8, ht8, g9⟩ := bindS g9; obtain rfl := someS g9; exact (ew_or1 (et_not (et_val (fun _ _ => rfl) (ee_call g_is_whole_in (Nat.le_of_ble_eq_true rfl) (by rfl) (ea_cons (fun _ _ _ p q => pa_cons p q) (ee_var 0 rfl (Or.inl rfl) rfl) ea_nil) ⟨v_points, rfl, rfl, t8, ht8, rfl⟩ (mu_dat mu_nil)))))))) hc11 ?_
      obtain rfl := someS h
      exact ex_nil fin_none

def s_led : Stmt := topS 31
def nm_led : List Str := ["whole_move", "points", "point"]
theorem sc_led : FnScope nm_led ["whole_move", "points"] (defScope s_led) := ⟨rfl, rfl, rfl, by decide +kernel, rfl, by decide +kernel, by decide +kernel⟩
def m_led (v_whole_move : (((Int × Int) × (Int × Int)) × (Int × Int))) (v_points : (List (Int × Int × Int))) : Option ((List (Int × Int × Int))) := (m_require_whole_move [(e_t2t2t2iit2iit2ii v_whole_move)]).bind fun t1 => (m_require_points v_points).bind fun t2 => (szO (v_points : List (Int × Int × Int))).bind fun t3 => (mapO (fun (x4 : (Int × Int × Int)) => (m_led_in v_whole_move x4).bind fun t7 => some t7) (v_points : List (Int × Int × Int))).bind fun t8 => some t8
def R_led : Rel := fun rs ms r ms2 => ∃ (v_whole_move : (((Int × Int) × (Int × Int)) × (Int × Int))) (v_points : (List (Int × Int × Int))), rs = [.dat (e_t2t2t2iit2iit2ii v_whole_move), .dat (e_ut3iii v_points)] ∧ ms2 = ms ∧ ∃ v : (List (Int × Int × Int)), m_led v_whole_move v_points = some v ∧ r = .dat (e_ut3iii v)
theorem kn_led (T : Txt K mg) {f : Addr} {fd : FuncData} (Fu : Fun K "led" "led" s_led f fd) (hmf : mg "led" = some (.ref f)) (g_require_whole_move : Kn P w K mg base 5 "require_whole_move" R_require_whole_move) (g_require_points : Kn P w K mg base 3 "require_points" R_require_points) (g_led_in : Kn P w K mg base 1 "led_in" R_led_in) : Kn P w K mg base 6 "led" R_led := by
  have hb := Fu.binds (ps := ["whole_move", "points"]) fun _ _ _ _ _ _ us hl => match us, hl with | [_, _], _ => rfl
  refine kn_of (kk := 5) Fu sc_led hb hmf rfl (by decide) (by rintro rs ms0 r ms ⟨v_whole_move, v_points, rfl, rfl, v, h, rfl⟩; exact ⟨rfl, rfl⟩) ?_
  rintro rs ms0 r ms ⟨v_whole_move, v_points, rfl, rfl, v, h, rfl⟩
  show Ex _ _ [.dat (e_t2t2t2iit2iit2ii v_whole_move), .dat (e_ut3iii v_points), .un] ms (fun o => Fin ms o (.dat (e_ut3iii v)))
  unfold m_led at h
  show Ex _ _ [.dat (e_t2t2t2iit2iit2ii v_whole_move), .dat (e_ut3iii v_points), .un] _ _
  obtain ⟨t1, ht1, h⟩ := bindS h
  refine ex_cons (ss_drop (fun _ => rfl) (ee_call g_require_whole_move (Nat.le_of_ble_eq_true rfl) (by rfl) (ea_cons (fun _ _ _ p q => pa_cons p q) (ee_var 0 rfl (Or.inr (Or.inl rfl)) rfl) ea_nil) ⟨[(e_t2t2t2iit2iit2ii v_whole_move)], rfl, (lnOk 1 rfl (by decide)), rfl, t1, ht1, rfl⟩ (mu_dat mu_nil))) ?_
  obtain ⟨t2, ht2, h⟩ := bindS h
  refine ex_cons (ss_drop (fun _ => rfl) (ee_call g_require_points (Nat.le_of_ble_eq_true rfl) (by rfl) (ea_cons (fun _ _ _ p q => pa_cons p q) (ee_var 1 rfl (Or.inl rfl) rfl) ea_nil) ⟨v_points, rfl, rfl, t2, ht2, rfl⟩ (mu_dat mu_nil))) ?_
  obtain ⟨t3, ht3, h⟩ := bindS h
  obtain ⟨t8, ht8, h⟩ := bindS h
  obtain rfl := someS h
  exact ex_out (ss_ret (ee_tuple T.tuple (by rfl) (ea_cons (fun _ _ _ p q => pa_cons p q) (ee_lcP [("point", 2)] e_t3iii e_t3iii (v_points : List (Int × Int × Int)) _ sc_led.nd (blkOk_by (N := nm_led) (sc := defScope s_led) (by decide +kernel)) (fun _ _ => rfl) (it_tup (ds := (v_points : List (Int × Int × Int)).map e_t3iii) (fun X _ h => pi_tup h) (ee_var 1 rfl (Or.inl rfl) rfl)) (fun _ => trivial) (by first | exact Nat.le_refl _ | (simp only [List.length_append, MD_len, M2_len, List.length_cons, List.length_nil, Sx.blk]; omega)) (fun x4 _ y6 ex g5 => by obtain ⟨t7, ht7, g5⟩ := bindS g5; obtain rfl := someS g5; exact ⟨_, _, by decide, (eg_name 2 sc_led.nd rfl (Or.inl rfl) (.inr rfl)), _, (ee_call g_led_in (Nat.le_of_ble_eq_true rfl) (by rfl) (ea_cons (fun _ _ _ p q => pa_cons p q) (ee_var 0 rfl (Or.inr (Or.inl rfl)) rfl) (ea_cons (fun _ _ _ p q => pa_cons p q) (ee_var 2 rfl (Or.inl rfl) rfl) ea_nil)) ⟨v_whole_move, x4, rfl, rfl, t7, ht7, rfl⟩ (mu_dat (mu_dat mu_nil))), rfl⟩) ht8 (szO_some ht3).1) ea_nil) rfl)) rfl fin_dat

def s_require_rows : Stmt := topS 26
def nm_require_rows : List Str := ["points", "far_points"]
theorem sc_require_rows : FnScope nm_require_rows ["points", "far_points"] (defScope s_require_rows) := ⟨rfl, rfl, rfl, by decide +kernel, rfl, by decide +kernel, by decide +kernel⟩
def m_require_rows (v_points : (List (Int × Int × Int))) (v_far_points : (List (Int × Int × Int))) : Option (Unit) := (m_require_points v_points).bind fun t1 => (m_require_points v_far_points).bind fun t2 => if (decide ((v_points.length : Int) ≠ (v_far_points.length : Int))) = true then (none) else (some ())
def R_require_rows : Rel := fun rs ms r ms2 => ∃ (v_points : (List (Int × Int × Int))) (v_far_points : (List (Int × Int × Int))), rs = [.dat (e_ut3iii v_points), .dat (e_ut3iii v_far_points)] ∧ ms2 = ms ∧ ∃ v : Unit, m_require_rows v_points v_far_points = some v ∧ r = .dat .none
theorem kn_require_rows (T : Txt K mg) {f : Addr} {fd : FuncData} (Fu : Fun K "require_rows" "require_rows" s_require_rows f fd) (hmf : mg "require_rows" = some (.ref f)) (g_require_points : Kn P w K mg base 3 "require_points" R_require_points) : Kn P w K mg base 4 "require_rows" R_require_rows := by
  have hb := Fu.binds (ps := ["points", "far_points"]) fun _ _ _ _ _ _ us hl => match us, hl with | [_, _], _ => rfl
  refine kn_of (kk := 3) Fu sc_require_rows hb hmf rfl (by decide) (by rintro rs ms0 r ms ⟨v_points, v_far_points, rfl, rfl, v, h, rfl⟩; exact ⟨rfl, rfl⟩) ?_
  rintro rs ms0 r ms ⟨v_points, v_far_points, rfl, rfl, v, h, rfl⟩
  show Ex _ _ [.dat (e_ut3iii v_points), .dat (e_ut3iii v_far_points)] ms (fun o => Fin ms o (.dat .none))
  unfold m_require_rows at h
  show Ex _ _ [.dat (e_ut3iii v_points), .dat (e_ut3iii v_far_points)] _ _
  obtain ⟨t1, ht1, h⟩ := bindS h
  refine ex_cons (ss_drop (fun _ => rfl) (ee_call g_require_points (Nat.le_of_ble_eq_true rfl) (by rfl) (ea_cons (fun _ _ _ p q => pa_cons p q) (ee_var 0 rfl (Or.inl rfl) rfl) ea_nil) ⟨v_points, rfl, rfl, t1, ht1, rfl⟩ (mu_dat mu_nil))) ?_
  obtain ⟨t2, ht2, h⟩ := bindS h
  refine ex_cons (ss_drop (fun _ => rfl) (ee_call g_require_points (Nat.le_of_ble_eq_true rfl) (by rfl) (ea_cons (fun _ _ _ p q => pa_cons p q) (ee_var 1 rfl (Or.inl rfl) rfl) ea_nil) ⟨v_far_points, rfl, rfl, t2, ht2, rfl⟩ (mu_dat mu_nil))) ?_
  rcases boolCases (decide ((v_points.length : Int) ≠ (v_far_points.length : Int))) with hc3 | hc3
  · have h := iteT' hc3 h
    refine ex_ifT (et_neI (nobehind _ (by decide) (by decide)) (ee_is (ee_lenT T.len (by rfl) (ea_cons (fun _ _ _ p q => pa_cons p q) (ee_var 0 rfl (Or.inl rfl) rfl) ea_nil)) (by rw [List.length_map])) (ee_is (ee_lenT T.len (by rfl) (ea_cons (fun _ _ _ p q => pa_cons p q) (ee_var 1 rfl (Or.inl rfl) rfl) ea_nil)) (by rw [List.length_map]))) hc3 ?_
    cases h
  · have h := iteF' hc3 h
    refine ex_ifF0 (et_neI (nobehind _ (by decide) (by decide)) (ee_is (ee_lenT T.len (by rfl) (ea_cons (fun _ _ _ p q => pa_cons p q) (ee_var 0 rfl (Or.inl rfl) rfl) ea_nil)) (by rw [List.length_map])) (ee_is (ee_lenT T.len (by rfl) (ea_cons (fun _ _ _ p q => pa_cons p q) (ee_var 1 rfl (Or.inl rfl) rfl) ea_nil)) (by rw [List.length_map]))) hc3 ?_
    obtain rfl := someS h
    exact ex_nil fin_none

def s_do_lead : Stmt := topS 23
def nm_do_lead : List Str := ["move", "points", "far_points", "one", "far"]
theorem sc_do_lead : FnScope nm_do_lead ["move", "points", "far_points"] (defScope s_do_lead) := ⟨rfl, rfl, rfl, by decide +kernel, rfl, by decide +kernel, by decide +kernel⟩
def m_do_lead (v_move : (((Int × Int) × (Int × Int)) × (Int × Int))) (v_points : (List (Int × Int × Int))) (v_far_points : (List (Int × Int × Int))) : Option (Bool) := (some (List.zip (v_points : List (Int × Int × Int)) (v_far_points : List (Int × Int × Int)))).bind fun t1 => (szO t1).bind fun t2 => (mapO (fun (x3 : ((Int × Int × Int) × (Int × Int × Int))) => (m_led_in v_move x3.1).bind fun t6 => (eqO (e_t3iii t6) (e_t3iii x3.2)).bind fun t7 => some t7) t1).bind fun t8 => some ((t8 : List Bool).all id)
def R_do_lead : Rel := fun rs ms r ms2 => ∃ (v_move : (((Int × Int) × (Int × Int)) × (Int × Int))) (v_points : (List (Int × Int × Int))) (v_far_points : (List (Int × Int × Int))), rs = [.dat (e_t2t2t2iit2iit2ii v_move), .dat (e_ut3iii v_points), .dat (e_ut3iii v_far_points)] ∧ ms2 = ms ∧ ∃ v : Bool, m_do_lead v_move v_points v_far_points = some v ∧ r = .dat (.bool v)
theorem kn_do_lead (T : Txt K mg) {f : Addr} {fd : FuncData} (Fu : Fun K "do_lead" "do_lead" s_do_lead f fd) (hmf : mg "do_lead" = some (.ref f)) (g_led_in : Kn P w K mg base 1 "led_in" R_led_in) : Kn P w K mg base 2 "do_lead" R_do_lead := by
  have hb := Fu.binds (ps := ["move", "points", "far_points"]) fun _ _ _ _ _ _ us hl => match us, hl with | [_, _, _], _ => rfl
  refine kn_of (kk := 1) Fu sc_do_lead hb hmf rfl (by decide) (by rintro rs ms0 r ms ⟨v_move, v_points, v_far_points, rfl, rfl, v, h, rfl⟩; exact ⟨rfl, rfl⟩) ?_
  rintro rs ms0 r ms ⟨v_move, v_points, v_far_points, rfl, rfl, v, h, rfl⟩
  show Ex _ _ [.dat (e_t2t2t2iit2iit2ii v_move), .dat (e_ut3iii v_points), .dat (e_ut3iii v_far_points), .un, .un] ms (fun o => Fin ms o (.dat (.bool v)))
  unfold m_do_lead at h
  show Ex _ _ [.dat (e_t2t2t2iit2iit2ii v_move), .dat (e_ut3iii v_points), .dat (e_ut3iii v_far_points), .un, .un] _ _
  obtain ⟨t1, ht1, h⟩ := bindS h
  obtain ⟨t2, ht2, h⟩ := bindS h
  obtain ⟨t8, ht8, h⟩ := bindS h
  obtain rfl := someS h
  exact ex_out (ss_ret (ee_all T.all (by rfl) (ea_cons (fun _ _ _ p q => pa_cons p q) (ee_lcP [("one", 3), ("far", 4)] e_t2t3iiit3iii PyData.bool t1 _ sc_do_lead.nd (blkOk_by (N := nm_do_lead) (sc := defScope s_do_lead) (by decide +kernel)) (fun _ _ => rfl) (it_zipTT e_t3iii e_t3iii T.zip (by rfl) (ea_cons (fun _ _ _ p q => pa_cons p q) (ee_var 1 rfl (Or.inl rfl) rfl) (ea_cons (fun _ _ _ p q => pa_cons p q) (ee_var 2 rfl (Or.inl rfl) rfl) ea_nil))  ht1) (fun _ => trivial) (by first | exact Nat.le_refl _ | (simp only [List.length_append, MD_len, M2_len, List.length_cons, List.length_nil, Sx.blk]; omega)) (fun x3 _ y5 ex g4 => by obtain ⟨t6, ht6, g4⟩ := bindS g4; obtain ⟨t7, ht7, g4⟩ := bindS g4; obtain rfl := someS g4; exact ⟨_, _, by decide, (eg_tup (fun _ => rfl) (fun _ => rfl) (egs_cons (fun _ _ _ p q => pgs_cons p q) (eg_name 3 sc_do_lead.nd rfl (Or.inl rfl) (.inr rfl)) (egs_cons (fun _ _ _ p q => pgs_cons p q) (eg_name 4 sc_do_lead.nd rfl (Or.inl rfl) (.inr rfl)) egs_nil))), _, (ee_eqO (nobehind _ (by decide) (by decide)) (ee_call g_led_in (Nat.le_of_ble_eq_true rfl) (by rfl) (ea_cons (fun _ _ _ p q => pa_cons p q) (ee_var 0 rfl (Or.inr (Or.inl rfl)) rfl) (ea_cons (fun _ _ _ p q => pa_cons p q) (ee_var 3 rfl (Or.inl rfl) rfl) ea_nil)) ⟨v_move, x3.1, rfl, rfl, t6, ht6, rfl⟩ (mu_dat (mu_dat mu_nil))) (ee_var 4 rfl (Or.inl rfl) rfl) rfl rfl ht7), rfl⟩) ht8 (szO_some ht2).1) ea_nil) rfl)) rfl fin_dat

def s_take_in : Stmt := topS 19
def nm_take_in : List Str := ["rows", "lead", "one", "far", "many", "a", "b"]
theorem sc_take_in : FnScope nm_take_in ["rows", "lead", "one", "far", "many"] (defScope s_take_in) := ⟨rfl, rfl, rfl, by decide +kernel, rfl, by decide +kernel, by decide +kernel⟩
def m_take_in (v_rows : (List (List Int))) (v_lead : (List (List Int))) (v_one : Int) (v_far : Int) (v_many : Int) : Option ((List (List Int)) × (List (List Int))) := (ixO (v_rows : List (List Int)) v_one).bind fun t1 => (ixO (v_rows : List (List Int)) v_far).bind fun t2 => (some (List.zip (t1 : List Int) (t2 : List Int))).bind fun t3 => (szO t3).bind fun t4 => (mapO (fun (x5 : (Int × Int)) => (mulO v_many x5.2).bind fun t8 => some (x5.1 - t8)) t3).bind fun t9 => (setO (v_rows : List (List Int)) v_one t9).bind fun t10 => (ixO (v_lead : List (List Int)) v_one).bind fun t11 => (ixO (v_lead : List (List Int)) v_far).bind fun t12 => (some (List.zip (t11 : List Int) (t12 : List Int))).bind fun t13 => (szO t13).bind fun t14 => (mapO (fun (x15 : (Int × Int)) => (mulO v_many x15.2).bind fun t18 => some (x15.1 - t18)) t13).bind fun t19 => (setO (v_lead : List (List Int)) v_one t19).bind fun t20 => some (t10, t20)
def R_take_in : Rel := fun rs ms r ms2 => ∃ (mc : MS) (k1 k2 : Nat) (v_rows : (List (List Int))) (v_lead : (List (List Int))) (v_one : Int) (v_far : Int) (v_many : Int), k1 < mc.length ∧ k2 < mc.length ∧ k1 ≠ k2 ∧ rs = [.mu k1, .mu k2, .dat (.int v_one), .dat (.int v_far), .dat (.int v_many)] ∧ ms = M2 mc k1 k2 (v_rows.map e_li) (v_lead.map e_li) ∧ r = .dat .none ∧ ∃ v : (List (List Int)) × (List (List Int)), m_take_in v_rows v_lead v_one v_far v_many = some v ∧ ms2 = M2 mc k1 k2 (v.1.map e_li) (v.2.map e_li)
theorem kn_take_in (T : Txt K mg) {f : Addr} {fd : FuncData} (Fu : Fun K "take_in" "take_in" s_take_in f fd) (hmf : mg "take_in" = some (.ref f))  : Kn P w K mg base 1 "take_in" R_take_in := by
  have hb := Fu.binds (ps := ["rows", "lead", "one", "far", "many"]) fun _ _ _ _ _ _ us hl => match us, hl with | [_, _, _, _, _], _ => rfl
  refine kn_of (kk := 0) Fu sc_take_in hb hmf rfl (by decide) (by rintro rs ms r ms2 ⟨mc, k1, k2, v_rows, v_lead, v_one, v_far, v_many, hk1, hk2, hn12, rfl, rfl, rfl, v, h, rfl⟩; exact ⟨rfl, by rw [M2_len, M2_len]⟩) ?_
  rintro rs ms r ms2 ⟨mc, k1, k2, v_rows, v_lead, v_one, v_far, v_many, hk1, hk2, hn12, rfl, rfl, rfl, v, h, rfl⟩
  show Ex _ _ [.mu k1, .mu k2, .dat (.int v_one), .dat (.int v_far), .dat (.int v_many), .un, .un] (M2 mc k1 k2 (v_rows.map e_li) (v_lead.map e_li)) (fun o => Fin (M2 mc k1 k2 (v.1.map e_li) (v.2.map e_li)) o (.dat .none))
  unfold m_take_in at h
  show Ex _ _ [.mu k1, .mu k2, .dat (.int v_one), .dat (.int v_far), .dat (.int v_many), .un, .un] _ _
  obtain ⟨t1, ht1, h⟩ := bindS h
  obtain ⟨t2, ht2, h⟩ := bindS h
  obtain ⟨t3, ht3, h⟩ := bindS h
  obtain ⟨t4, ht4, h⟩ := bindS h
  obtain ⟨t9, ht9, h⟩ := bindS h
  obtain ⟨t10, ht10, h⟩ := bindS h
  refine ex_cons (ss_setO (k := k1) e_li (fun _ => rfl) (fun _ => rfl) (fun _ => rfl) (fun X _ _ p q => pg_sub p q set_list) (ee_lcP [("a", 5), ("b", 6)] e_t2ii PyData.int t3 _ sc_take_in.nd (blkOk_by (N := nm_take_in) (sc := defScope s_take_in) (by decide +kernel)) (fun _ _ => rfl) (it_zipLL PyData.int PyData.int T.zip (by rfl) (ea_cons (fun _ _ _ p q => pa_cons p q) (ee_ixL (fun X _ _ p q => pe_ix ix_list p q (fun _ _ => rfl)) (ee_mu 0 rfl (Or.inl rfl) rfl) (ee_var 2 rfl (Or.inl rfl) rfl) (by rw [lresMu, M2_at1 hk1 hn12]) (atI_map e_li ht1)) (ea_cons (fun _ _ _ p q => pa_cons p q) (ee_ixL (fun X _ _ p q => pe_ix ix_list p q (fun _ _ => rfl)) (ee_mu 0 rfl (Or.inl rfl) rfl) (ee_var 3 rfl (Or.inl rfl) rfl) (by rw [lresMu, M2_at1 hk1 hn12]) (atI_map e_li ht2)) ea_nil)) rfl rfl ht3) (fun _ => ⟨rfl, rfl⟩) (by first | exact Nat.le_refl _ | (simp only [List.length_append, MD_len, M2_len, List.length_cons, List.length_nil, Sx.blk]; omega)) (fun x5 _ y7 ex g6 => by obtain ⟨t8, ht8, g6⟩ := bindS g6; obtain rfl := someS g6; exact ⟨_, _, by decide, (eg_tup (fun _ => rfl) (fun _ => rfl) (egs_cons (fun _ _ _ p q => pgs_cons p q) (eg_name 5 sc_take_in.nd rfl (Or.inl rfl) (.inr rfl)) (egs_cons (fun _ _ _ p q => pgs_cons p q) (eg_name 6 sc_take_in.nd rfl (Or.inl rfl) (.inr rfl)) egs_nil))), _, (ee_sub (ee_var 5 rfl (Or.inl rfl) rfl) (ee_mulO (ee_var 4 rfl (Or.inr (Or.inl rfl)) rfl) (ee_var 6 rfl (Or.inl rfl) rfl) ht8)), rfl⟩) ht9 (szO_some ht4).1) rfl (ee_mu 0 rfl (Or.inl rfl) rfl) (ee_var 2 rfl (Or.inl rfl) rfl) (by rw [M2_at1 hk1 hn12]) ht10 (.inr tch0) (M2_set1 hn12)) ?_
  obtain ⟨t11, ht11, h⟩ := bindS h
  obtain ⟨t12, ht12, h⟩ := bindS h
  obtain ⟨t13, ht13, h⟩ := bindS h
  obtain ⟨t14, ht14, h⟩ := bindS h
  obtain ⟨t19, ht19, h⟩ := bindS h
  obtain ⟨t20, ht20, h⟩ := bindS h
  refine ex_cons (ss_setO (k := k2) e_li (fun _ => rfl) (fun _ => rfl) (fun _ => rfl) (fun X _ _ p q => pg_sub p q set_list) (ee_lcP [("a", 5), ("b", 6)] e_t2ii PyData.int t13 _ sc_take_in.nd (blkOk_by (N := nm_take_in) (sc := defScope s_take_in) (by decide +kernel)) (fun _ _ => rfl) (it_zipLL PyData.int PyData.int T.zip (by rfl) (ea_cons (fun _ _ _ p q => pa_cons p q) (ee_ixL (fun X _ _ p q => pe_ix ix_list p q (fun _ _ => rfl)) (ee_mu 1 rfl (Or.inl rfl) rfl) (ee_var 2 rfl (Or.inl rfl) rfl) (by rw [lresMu, M2_at2 hk2]) (atI_map e_li ht11)) (ea_cons (fun _ _ _ p q => pa_cons p q) (ee_ixL (fun X _ _ p q => pe_ix ix_list p q (fun _ _ => rfl)) (ee_mu 1 rfl (Or.inl rfl) rfl) (ee_var 3 rfl (Or.inl rfl) rfl) (by rw [lresMu, M2_at2 hk2]) (atI_map e_li ht12)) ea_nil)) rfl rfl ht13) (fun _ => ⟨rfl, rfl⟩) (by first | exact Nat.le_refl _ | (simp only [List.length_append, MD_len, M2_len, List.length_cons, List.length_nil, Sx.blk]; omega)) (fun x15 _ y17 ex g16 => by obtain ⟨t18, ht18, g16⟩ := bindS g16; obtain rfl := someS g16; exact ⟨_, _, by decide, (eg_tup (fun _ => rfl) (fun _ => rfl) (egs_cons (fun _ _ _ p q => pgs_cons p q) (eg_name 5 sc_take_in.nd rfl (Or.inl rfl) (.inr rfl)) (egs_cons (fun _ _ _ p q => pgs_cons p q) (eg_name 6 sc_take_in.nd rfl (Or.inl rfl) (.inr rfl)) egs_nil))), _, (ee_sub (ee_var 5 rfl (Or.inl rfl) rfl) (ee_mulO (ee_var 4 rfl (Or.inr (Or.inl rfl)) rfl) (ee_var 6 rfl (Or.inl rfl) rfl) ht18)), rfl⟩) ht19 (szO_some ht14).1) rfl (ee_mu 1 rfl (Or.inl rfl) rfl) (ee_var 2 rfl (Or.inl rfl) rfl) (by rw [M2_at2 hk2]) ht20 (.inr tch1) M2_set2) ?_
  obtain rfl := someS h
  exact ex_nil fin_none

def s_clear_in : Stmt := topS 20
def nm_clear_in : List Str := ["rows", "lead", "at"]
theorem sc_clear_in : FnScope nm_clear_in ["rows", "lead", "at"] (defScope s_clear_in) := ⟨rfl, rfl, rfl, by decide +kernel, rfl, by decide +kernel, by decide +kernel⟩
def m_clear_in (v_rows : (List (List Int))) (v_lead : (List (List Int))) (v_at : Int) : Option ((List (List Int)) × (List (List Int))) := (ixO (v_rows : List (List Int)) 0).bind fun t1 => (ixO (t1 : List Int) v_at).bind fun t2 => (if (decide (t2 ≠ 0)) = true then ((ixO (v_rows : List (List Int)) 1).bind fun t4 => (ixO (t4 : List Int) v_at).bind fun t5 => (ixO (v_rows : List (List Int)) 0).bind fun t6 => (ixO (t6 : List Int) v_at).bind fun t7 => (fdivO t5 t7).bind fun t8 => (m_take_in v_rows v_lead 1 0 t8).bind fun t9 => some (t9.1, t9.2)) else (some (v_rows, v_lead)) : Option ((List (List Int)) × (List (List Int)))).bind fun j3 => (ixO (j3.1 : List (List Int)) 1).bind fun t10 => (ixO (t10 : List Int) v_at).bind fun t11 => (if (decide (t11 ≠ 0)) = true then ((ixO (j3.1 : List (List Int)) 1).bind fun t13 => (ixO (j3.1 : List (List Int)) 0).bind fun t14 => (setO (j3.1 : List (List Int)) 0 t13).bind fun t15 => (setO (t15 : List (List Int)) 1 t14).bind fun t16 => (ixO (j3.2 : List (List Int)) 1).bind fun t17 => (ixO (j3.2 : List (List Int)) 0).bind fun t18 => (setO (j3.2 : List (List Int)) 0 t17).bind fun t19 => (setO (t19 : List (List Int)) 1 t18).bind fun t20 => some (t16, t20)) else (some (j3.1, j3.2)) : Option ((List (List Int)) × (List (List Int)))).bind fun j12 => some (j12.1, j12.2)
def R_clear_in : Rel := fun rs ms r ms2 => ∃ (mc : MS) (k1 k2 : Nat) (v_rows : (List (List Int))) (v_lead : (List (List Int))) (v_at : Int), k1 < mc.length ∧ k2 < mc.length ∧ k1 ≠ k2 ∧ rs = [.mu k1, .mu k2, .dat (.int v_at)] ∧ ms = M2 mc k1 k2 (v_rows.map e_li) (v_lead.map e_li) ∧ r = .dat .none ∧ ∃ v : (List (List Int)) × (List (List Int)), m_clear_in v_rows v_lead v_at = some v ∧ ms2 = M2 mc k1 k2 (v.1.map e_li) (v.2.map e_li)
theorem kn_clear_in (T : Txt K mg) {f : Addr} {fd : FuncData} (Fu : Fun K "clear_in" "clear_in" s_clear_in f fd) (hmf : mg "clear_in" = some (.ref f)) (g_take_in : Kn P w K mg base 1 "take_in" R_take_in) : Kn P w K mg base 2 "clear_in" R_clear_in := by
  have hb := Fu.binds (ps := ["rows", "lead", "at"]) fun _ _ _ _ _ _ us hl => match us, hl with | [_, _, _], _ => rfl
  refine kn_of (kk := 1) Fu sc_clear_in hb hmf rfl (by decide) (by rintro rs ms r ms2 ⟨mc, k1, k2, v_rows, v_lead, v_at, hk1, hk2, hn12, rfl, rfl, rfl, v, h, rfl⟩; exact ⟨rfl, by rw [M2_len, M2_len]⟩) ?_
  rintro rs ms r ms2 ⟨mc, k1, k2, v_rows, v_lead, v_at, hk1, hk2, hn12, rfl, rfl, rfl, v, h, rfl⟩
  show Ex _ _ [.mu k1, .mu k2, .dat (.int v_at)] (M2 mc k1 k2 (v_rows.map e_li) (v_lead.map e_li)) (fun o => Fin (M2 mc k1 k2 (v.1.map e_li) (v.2.map e_li)) o (.dat .none))
  unfold m_clear_in at h
  show Ex _ _ [.mu k1, .mu k2, .dat (.int v_at)] _ _
  obtain ⟨t1, ht1, h⟩ := bindS h
  obtain ⟨t2, ht2, h⟩ := bindS h
  obtain ⟨j3, hj3, h⟩ := bindS h
  refine ex_cons (ss_join (ρ2 := [.mu k1, .mu k2, .dat (.int v_at)]) (ms2 := (M2 mc k1 k2 (j3.1.map e_li) (j3.2.map e_li))) (et_neI (nobehind _ (by decide) (by decide)) (ee_ixL (fun X _ _ p q => pe_ix ix_list p q (fun _ _ => rfl)) (ee_ixL (fun X _ _ p q => pe_ix ix_list p q (fun _ _ => rfl)) (ee_mu 0 rfl (Or.inl rfl) rfl) ee_int (by rw [lresMu, M2_at1 hk1 hn12]) (atI_map e_li ht1)) (ee_var 2 rfl (Or.inl rfl) rfl) rfl (atI_map PyData.int ht2)) ee_int) rfl (by first | rfl | simp only [List.length_append, MD_len, M2_len, List.length_cons, List.length_nil, Sx.blk])
    (fun z => by
      have h := iteT' z hj3
      show Ex _ _ [.mu k1, .mu k2, .dat (.int v_at)] _ _
      obtain ⟨t4, ht4, h⟩ := bindS h
      obtain ⟨t5, ht5, h⟩ := bindS h
      obtain ⟨t6, ht6, h⟩ := bindS h
      obtain ⟨t7, ht7, h⟩ := bindS h
      obtain ⟨t8, ht8, h⟩ := bindS h
      obtain ⟨t9, ht9, h⟩ := bindS h
      refine ex_cons (ss_drop (fun _ => rfl) (ee_call (r := .dat .none) (ms2 := (M2 mc k1 k2 (t9.1.map e_li) (t9.2.map e_li))) g_take_in (Nat.le_of_ble_eq_true rfl) (by rfl) (ea_cons (fun _ _ _ p q => pa_cons p q) (ee_mu 0 rfl (Or.inl rfl) rfl) (ea_cons (fun _ _ _ p q => pa_cons p q) (ee_mu 1 rfl (Or.inl rfl) rfl) (ea_cons (fun _ _ _ p q => pa_cons p q) ee_int (ea_cons (fun _ _ _ p q => pa_cons p q) ee_int (ea_cons (fun _ _ _ p q => pa_cons p q) (ee_fdivO (ee_ixL (fun X _ _ p q => pe_ix ix_list p q (fun _ _ => rfl)) (ee_ixL (fun X _ _ p q => pe_ix ix_list p q (fun _ _ => rfl)) (ee_mu 0 rfl (Or.inl rfl) rfl) ee_int (by rw [lresMu, M2_at1 hk1 hn12]) (atI_map e_li ht4)) (ee_var 2 rfl (Or.inl rfl) rfl) rfl (atI_map PyData.int ht5)) (ee_ixL (fun X _ _ p q => pe_ix ix_list p q (fun _ _ => rfl)) (ee_ixL (fun X _ _ p q => pe_ix ix_list p q (fun _ _ => rfl)) (ee_mu 0 rfl (Or.inl rfl) rfl) ee_int (by rw [lresMu, M2_at1 hk1 hn12]) (atI_map e_li ht6)) (ee_var 2 rfl (Or.inl rfl) rfl) rfl (atI_map PyData.int ht7)) ht8) ea_nil))))) ⟨_, _, _, v_rows, v_lead, 1, 0, t8, hk1, hk2, hn12, rfl, rfl, rfl, t9, ht9, rfl⟩ (mu_mu (.inr tch0) (mu_mu (.inr tch1) (mu_dat (mu_dat (mu_dat mu_nil))))))) ?_
      obtain rfl := someS h
      exact ex_nil (thru_nx (.cons (.mu (by first | omega | (simp only [List.length_append, MD_len, M2_len, List.length_cons, List.length_nil, Sx.blk]; omega))) (.cons (.mu (by first | omega | (simp only [List.length_append, MD_len, M2_len, List.length_cons, List.length_nil, Sx.blk]; omega))) (.cons .dat .nil))))
    )
    (fun z => by
      have h := iteF' z hj3
      obtain rfl := someS h
      exact ex_nil (thru_nx (.cons (.mu (by first | omega | (simp only [List.length_append, MD_len, M2_len, List.length_cons, List.length_nil, Sx.blk]; omega))) (.cons (.mu (by first | omega | (simp only [List.length_append, MD_len, M2_len, List.length_cons, List.length_nil, Sx.blk]; omega))) (.cons .dat .nil))))
    )) ?_
  obtain ⟨t10, ht10, h⟩ := bindS h
  obtain ⟨t11, ht11, h⟩ := bindS h
  obtain ⟨j12, hj12, h⟩ := bindS h
  refine ex_cons (ss_join (ρ2 := [.mu k1, .mu k2, .dat (.int v_at)]) (ms2 := (M2 mc k1 k2 (j12.1.map e_li) (j12.2.map e_li))) (et_neI (nobehind _ (by decide) (by decide)) (ee_ixL (fun X _ _ p q => pe_ix ix_list p q (fun _ _ => rfl)) (ee_ixL (fun X _ _ p q => pe_ix ix_list p q (fun _ _ => rfl)) (ee_mu 0 rfl (Or.inl rfl) rfl) ee_int (by rw [lresMu, M2_at1 hk1 hn12]) (atI_map e_li ht10)) (ee_var 2 rfl (Or.inl rfl) rfl) rfl (atI_map PyData.int ht11)) ee_int) rfl (by first | rfl | simp only [List.length_append, MD_len, M2_len, List.length_cons, List.length_nil, Sx.blk])
    (fun z => by
      have h := iteT' z hj12
      show Ex _ _ [.mu k1, .mu k2, .dat (.int v_at)] _ _
      obtain ⟨t13, ht13, h⟩ := bindS h
      obtain ⟨t14, ht14, h⟩ := bindS h
      obtain ⟨t15, ht15, h⟩ := bindS h
      obtain ⟨t16, ht16, h⟩ := bindS h
      refine ex_cons (ss_sub2 (k1 := k1) (k2 := k1) (ms2 := (M2 mc k1 k2 (t15.map e_li) (j3.2.map e_li))) e_li e_li (fun _ => rfl) (fun X hX => (sw_env (env' := env0 (defScope s_clear_in)) hX.sc _ _).trans rfl) (fun X _ _ p q => pg_sub p q set_list) (fun X _ _ p q => pg_sub p q set_list) (ea_cons (fun _ _ _ p q => pa_cons p q) (ee_ixL (fun X _ _ p q => pe_ix ix_list p q (fun _ _ => rfl)) (ee_mu 0 rfl (Or.inl rfl) rfl) ee_int (by rw [lresMu, M2_at1 hk1 hn12]) (atI_map e_li ht13)) (ea_cons (fun _ _ _ p q => pa_cons p q) (ee_ixL (fun X _ _ p q => pe_ix ix_list p q (fun _ _ => rfl)) (ee_mu 0 rfl (Or.inl rfl) rfl) ee_int (by rw [lresMu, M2_at1 hk1 hn12]) (atI_map e_li ht14)) ea_nil)) rfl rfl (ee_mu 0 rfl (Or.inl rfl) rfl) ee_int (by rw [M2_at1 hk1 hn12]) ht15 (.inr tch0) (M2_set1 hn12) (ee_mu 0 rfl (Or.inl rfl) rfl) ee_int (by rw [M2_at1 hk1 hn12]) ht16 (.inr tch0) (M2_set1 hn12)) ?_
      obtain ⟨t17, ht17, h⟩ := bindS h
      obtain ⟨t18, ht18, h⟩ := bindS h
      obtain ⟨t19, ht19, h⟩ := bindS h
      obtain ⟨t20, ht20, h⟩ := bindS h
      refine ex_cons (ss_sub2 (k1 := k2) (k2 := k2) (ms2 := (M2 mc k1 k2 (t16.map e_li) (t19.map e_li))) e_li e_li (fun _ => rfl) (fun X hX => (sw_env (env' := env0 (defScope s_clear_in)) hX.sc _ _).trans rfl) (fun X _ _ p q => pg_sub p q set_list) (fun X _ _ p q => pg_sub p q set_list) (ea_cons (fun _ _ _ p q => pa_cons p q) (ee_ixL (fun X _ _ p q => pe_ix ix_list p q (fun _ _ => rfl)) (ee_mu 1 rfl (Or.inl rfl) rfl) ee_int (by rw [lresMu, M2_at2 hk2]) (atI_map e_li ht17)) (ea_cons (fun _ _ _ p q => pa_cons p q) (ee_ixL (fun X _ _ p q => pe_ix ix_list p q (fun _ _ => rfl)) (ee_mu 1 rfl (Or.inl rfl) rfl) ee_int (by rw [lresMu, M2_at2 hk2]) (atI_map e_li ht18)) ea_nil)) rfl rfl (ee_mu 1 rfl (Or.inl rfl) rfl) ee_int (by rw [M2_at2 hk2]) ht19 (.inr tch1) M2_set2 (ee_mu 1 rfl (Or.inl rfl) rfl) ee_int (by rw [M2_at2 hk2]) ht20 (.inr tch1) M2_set2) ?_
      obtain rfl := someS h
      exact ex_nil (thru_nx (.cons (.mu (by first | omega | (simp only [List.length_append, MD_len, M2_len, List.length_cons, List.length_nil, Sx.blk]; omega))) (.cons (.mu (by first | omega | (simp only [List.length_append, MD_len, M2_len, List.length_cons, List.length_nil, Sx.blk]; omega))) (.cons .dat .nil))))
    )
    (fun z => by
      have h := iteF' z hj12
      obtain rfl := someS h
      exact ex_nil (thru_nx (.cons (.mu (by first | omega | (simp only [List.length_append, MD_len, M2_len, List.length_cons, List.length_nil, Sx.blk]; omega))) (.cons (.mu (by first | omega | (simp only [List.length_append, MD_len, M2_len, List.length_cons, List.length_nil, Sx.blk]; omega))) (.cons .dat .nil))))
    )) ?_
  obtain rfl := someS h
  exact ex_nil fin_none

def s_form_in : Stmt := topS 18
def nm_form_in : List Str := ["points", "first", "rows", "lead", "top", "at", "point", "row", "one"]
theorem sc_form_in : FnScope nm_form_in ["points"] (defScope s_form_in) := ⟨rfl, rfl, rfl, by decide +kernel, rfl, by decide +kernel, by decide +kernel⟩
def m_form_in (v_points : (List (Int × Int × Int))) : Option (((List (List Int)) × (List (List Int)))) := (ixO (v_points : List (Int × Int × Int)) 0).bind fun t1 => (szO ((cutL v_points (some 1) none) : List (Int × Int × Int))).bind fun t2 => (mapO (fun (x3 : (Int × Int × Int)) => some (x3.1 - t1.1)) ((cutL v_points (some 1) none) : List (Int × Int × Int))).bind fun t6 => (szO ((cutL v_points (some 1) none) : List (Int × Int × Int))).bind fun t7 => (mapO (fun (x8 : (Int × Int × Int)) => some (x8.2.1 - t1.2.1)) ((cutL v_points (some 1) none) : List (Int × Int × Int))).bind fun t11 => (rgO ((v_points.length : Int) - 1)).bind fun t12 => (forS (fun (x14 : Int) (s13 : Int × (List (List Int)) × (List (List Int))) => (whileS (fun s17 : (List (List Int)) × (List (List Int)) => (if (decide (s13.1 < 2)) = true then ((szO ((cutL s17.1 (some (s13.1 + 1)) none) : List (List Int))).bind fun t21 => (mapO (fun (x22 : (List Int)) => (ixO (x22 : List Int) x14).bind fun t25 => some (decide (t25 ≠ 0))) ((cutL s17.1 (some (s13.1 + 1)) none) : List (List Int))).bind fun t26 => some ((t26 : List Bool).any id)) else some false).bind fun t28 => some t28) (fun s17 : (List (List Int)) × (List (List Int)) => (m_clear_in s17.1 s17.2 x14).bind fun t29 => some (t29.1, t29.2)) FUEL (s13.2.1, s13.2.2)).bind fun s19 => (if (decide (s13.1 < 2)) = true then ((ixO (s19.1 : List (List Int)) s13.1).bind fun t30 => (ixO (t30 : List Int) x14).bind fun t31 => some (decide (t31 ≠ 0))) else some false).bind fun t33 => (if t33 = true then ((ixO (s19.1 : List (List Int)) s13.1).bind fun t35 => (ixO (t35 : List Int) x14).bind fun t36 => (if (decide (t36 < 0)) = true then ((ixO (s19.1 : List (List Int)) s13.1).bind fun t38 => (szO (t38 : List Int)).bind fun t39 => (mapO (fun (x40 : Int) => some (-x40)) (t38 : List Int)).bind fun t43 => (ixO (s19.2 : List (List Int)) s13.1).bind fun t44 => (szO (t44 : List Int)).bind fun t45 => (mapO (fun (x46 : Int) => some (-x46)) (t44 : List Int)).bind fun t49 => (setO (s19.1 : List (List Int)) s13.1 t43).bind fun t50 => (setO (s19.2 : List (List Int)) s13.1 t49).bind fun t51 => some (t50, t51)) else (some (s19.1, s19.2)) : Option ((List (List Int)) × (List (List Int)))).bind fun j37 => (if (decide (s13.1 = 1)) = true then ((ixO (j37.1 : List (List Int)) 0).bind fun t53 => (ixO (t53 : List Int) x14).bind fun t54 => (ixO (j37.1 : List (List Int)) 1).bind fun t55 => (ixO (t55 : List Int) x14).bind fun t56 => (fdivO t54 t56).bind fun t57 => (m_take_in j37.1 j37.2 0 1 t57).bind fun t58 => some (t58.1, t58.2)) else (some (j37.1, j37.2)) : Option ((List (List Int)) × (List (List Int)))).bind fun j52 => some ((s13.1 + 1), j52.1, j52.2)) else (some (s13.1, s19.1, s19.2)) : Option (Int × (List (List Int)) × (List (List Int)))).bind fun j34 => some (j34.1, j34.2.1, j34.2.2)) t12 (0, [(t6, t11).1, (t6, t11).2], [[(((1, 0), (0, 1)).1).1, (((1, 0), (0, 1)).1).2], [(((1, 0), (0, 1)).2).1, (((1, 0), (0, 1)).2).2]])).bind fun s16 => (szO (s16.2.1 : List (List Int))).bind fun t59 => (mapO (fun (x60 : (List Int)) => some x60) (s16.2.1 : List (List Int))).bind fun t63 => (szO (s16.2.2 : List (List Int))).bind fun t64 => (mapO (fun (x65 : (List Int)) => some x65) (s16.2.2 : List (List Int))).bind fun t68 => some (t63, t68)
def R_form_in : Rel := fun rs ms r ms2 => ∃ (v_points : (List (Int × Int × Int))), rs = [.dat (e_ut3iii v_points)] ∧ ms2 = ms ∧ ∃ v : ((List (List Int)) × (List (List Int))), m_form_in v_points = some v ∧ r = .dat (e_t2uuiuui v)
theorem kn_form_in (T : Txt K mg) {f : Addr} {fd : FuncData} (Fu : Fun K "form_in" "form_in" s_form_in f fd) (hmf : mg "form_in" = some (.ref f)) (g_clear_in : Kn P w K mg base 2 "clear_in" R_clear_in) (g_take_in : Kn P w K mg base 1 "take_in" R_take_in) : Kn P w K mg base 3 "form_in" R_form_in := by
  have hb := Fu.binds (ps := ["points"]) fun _ _ _ _ _ _ us hl => match us, hl with | [_], _ => rfl
  refine kn_of (kk := 2) Fu sc_form_in hb hmf rfl (by decide) (by rintro rs ms0 r ms ⟨v_points, rfl, rfl, v, h, rfl⟩; exact ⟨rfl, rfl⟩) ?_
  rintro rs ms0 r ms ⟨v_points, rfl, rfl, v, h, rfl⟩
  show Ex _ _ [.dat (e_ut3iii v_points), .un, .un, .un, .un, .un, .un, .un, .un] ms (fun o => Fin ms o (.dat (e_t2uuiuui v)))
  unfold m_form_in at h
  show Ex _ _ [.dat (e_ut3iii v_points), .un, .un, .un, .un, .un, .un, .un, .un] _ _
  obtain ⟨t1, ht1, h⟩ := bindS h
  refine ex_cons (ss_set 1 sc_form_in.nd rfl (Or.inr rfl) (.inl rfl) (fun _ => rfl) (ee_ixT (fun X _ _ p q => pe_ix ix_tup p q (fun _ _ => rfl)) (ee_var 0 rfl (Or.inl rfl) rfl) ee_int (atI_map e_t3iii ht1)) rfl) ?_
  show Ex _ _ [.dat (e_ut3iii v_points), .dat (e_t3iii t1), .un, .un, .un, .un, .un, .un, .un] _ _
  obtain ⟨t2, ht2, h⟩ := bindS h
  obtain ⟨t6, ht6, h⟩ := bindS h
  obtain ⟨t7, ht7, h⟩ := bindS h
  obtain ⟨t11, ht11, h⟩ := bindS h
  refine ex_cons (ss_open 2 sc_form_in.nd rfl (Or.inl rfl) (.inl rfl) (fun _ => rfl) (eeq_of (ee_lst (ea_cons (fun _ _ _ p q => pa_cons p q) (ee_lcP [("point", 6)] e_t3iii PyData.int ((cutL v_points (some 1) none) : List (Int × Int × Int)) _ sc_form_in.nd (blkOk_by (N := nm_form_in) (sc := defScope s_form_in) (by decide +kernel)) (fun _ _ => rfl) (it_tup (ds := ((cutL v_points (some 1) none) : List (Int × Int × Int)).map e_t3iii) (fun X _ h => pi_tup h) (ee_is (r' := .dat (e_ut3iii (cutL v_points (some 1) none))) (ee_slT (ds := (v_points : List (Int × Int × Int)).map e_t3iii) (ee_var 0 rfl (Or.inl rfl) rfl) (eo_some ee_int) eo_none) (by rw [cutD_map]; try rfl))) (fun _ => trivial) (by first | exact Nat.le_refl _ | (simp only [List.length_append, MD_len, M2_len, List.length_cons, List.length_nil, Sx.blk]; omega)) (fun x3 _ y5 ex g4 => by obtain rfl := someS g4; exact ⟨_, _, by decide, (eg_name 6 sc_form_in.nd rfl (Or.inl rfl) (.inr rfl)), _, (ee_sub (ee_ixT (fun X _ _ p q => pe_ix ix_tup p q (fun _ _ => rfl)) (ee_var 6 rfl (Or.inl rfl) rfl) ee_int (by rfl)) (ee_ixT (fun X _ _ p q => pe_ix ix_tup p q (fun _ _ => rfl)) (ee_var 1 rfl (Or.inr (Or.inl rfl)) rfl) ee_int (by rfl))), rfl⟩) ht6 (szO_some ht2).1) (ea_cons (fun _ _ _ p q => pa_cons p q) (ee_lcP [("point", 6)] e_t3iii PyData.int ((cutL v_points (some 1) none) : List (Int × Int × Int)) _ sc_form_in.nd (blkOk_by (N := nm_form_in) (sc := defScope s_form_in) (by decide +kernel)) (fun _ _ => rfl) (it_tup (ds := ((cutL v_points (some 1) none) : List (Int × Int × Int)).map e_t3iii) (fun X _ h => pi_tup h) (ee_is (r' := .dat (e_ut3iii (cutL v_points (some 1) none))) (ee_slT (ds := (v_points : List (Int × Int × Int)).map e_t3iii) (ee_var 0 rfl (Or.inl rfl) rfl) (eo_some ee_int) eo_none) (by rw [cutD_map]; try rfl))) (fun _ => trivial) (by first | exact Nat.le_refl _ | (simp only [List.length_append, MD_len, M2_len, List.length_cons, List.length_nil, Sx.blk]; omega)) (fun x8 _ y10 ex g9 => by obtain rfl := someS g9; exact ⟨_, _, by decide, (eg_name 6 sc_form_in.nd rfl (Or.inl rfl) (.inr rfl)), _, (ee_sub (ee_ixT (fun X _ _ p q => pe_ix ix_tup p q (fun _ _ => rfl)) (ee_var 6 rfl (Or.inl rfl) rfl) ee_int (by rfl)) (ee_ixT (fun X _ _ p q => pe_ix ix_tup p q (fun _ _ => rfl)) (ee_var 1 rfl (Or.inr (Or.inl rfl)) rfl) ee_int (by rfl))), rfl⟩) ht11 (szO_some ht7).1) ea_nil)) rfl (lnOk 2 rfl (by decide))) (hm_law rfl (fun _ => rfl))) (ms.length + 0) rfl) ?_
  show Ex _ _ [.dat (e_ut3iii v_points), .dat (e_t3iii t1), .mu (ms.length + 0), .un, .un, .un, .un, .un, .un] _ _
  refine ex_cons (ss_is (ss_par_od 3 4 sc_form_in.nd rfl rfl (by decide) rfl rfl (fun X hX => (sw_env (env' := env0 (defScope s_form_in)) hX.sc _ _).trans rfl) (fun X _ _ p q => pa_cons p (pa_cons q pa_nil)) (eep_lst (eap_cons (fun _ _ _ p q => pa_cons p q) (eep_lst (eap_cons (fun _ _ _ p q => pa_cons p q) eep_int (eap_cons (fun _ _ _ p q => pa_cons p q) eep_int eap_nil)) rfl (lnOk 2 rfl (by decide))) (eap_cons (fun _ _ _ p q => pa_cons p q) (eep_lst (eap_cons (fun _ _ _ p q => pa_cons p q) eep_int (eap_cons (fun _ _ _ p q => pa_cons p q) eep_int eap_nil)) rfl (lnOk 2 rfl (by decide))) eap_nil)) rfl (lnOk 2 rfl (by decide))) eep_int rfl (ms.length + 1) lenA1) (o' := .nx _ (ms ++ [([(t6, t11).1, (t6, t11).2].map e_li), ([[(((1, 0), (0, 1)).1).1, (((1, 0), (0, 1)).1).2], [(((1, 0), (0, 1)).2).1, (((1, 0), (0, 1)).2).2]].map e_li)])) (by rw [List.append_assoc]; try rfl)) ?_
  show Ex _ _ [.dat (e_ut3iii v_points), .dat (e_t3iii t1), .mu (ms.length + 0), .mu (ms.length + 1), .dat (.int 0), .un, .un, .un, .un] _ _
  obtain ⟨t12, ht12, h⟩ := bindS h
  obtain ⟨s16, hs16, h⟩ := bindS h
  refine ex_cons (ss_forS (s0 := (0, [(t6, t11).1, (t6, t11).2], [[(((1, 0), (0, 1)).1).1, (((1, 0), (0, 1)).1).2], [(((1, 0), (0, 1)).2).1, (((1, 0), (0, 1)).2).2]])) PyData.int _ _ (fun s13 : Int × (List (List Int)) × (List (List Int)) => [.dat (e_ut3iii v_points), .dat (e_t3iii t1), .mu (ms.length + 0), .mu (ms.length + 1), .dat (.int s13.1), .un, .un, .un, .un]) (fun s13 : Int × (List (List Int)) × (List (List Int)) => (ms ++ [(s13.2.1.map e_li), (s13.2.2.map e_li)])) (ms.length + 2) (fun _ _ => rfl) (it_rngO T.range (by rfl) (fun X _ h1 h2 h3 => pi_range1 h2 h3 h1) (ea_cons (fun _ _ _ p q => pa_cons p q) (ee_sub (ee_is (ee_lenT T.len (by rfl) (ea_cons (fun _ _ _ p q => pa_cons p q) (ee_var 0 rfl (Or.inl rfl) rfl) ea_nil)) (by rw [List.length_map])) ee_int) ea_nil) ht12) (fun _ => trivial) (fun _ => lenA2) (.cons .dat (.cons .dat (.cons (.mu (by first | omega | (simp only [List.length_append, MD_len, M2_len, List.length_cons, List.length_nil, Sx.blk]; omega))) (.cons (.mu (by first | omega | (simp only [List.length_append, MD_len, M2_len, List.length_cons, List.length_nil, Sx.blk]; omega))) (.cons .dat (.cons .un (.cons .un (.cons .un (.cons .un .nil)))))))))
    (fun x14 _ s13 s15 h => ⟨_, _, (eg_name 5 sc_form_in.nd rfl (Or.inr rfl) (.inl rfl)), by
      show Ex _ _ [.dat (e_ut3iii v_points), .dat (e_t3iii t1), .mu (ms.length + 0), .mu (ms.length + 1), .dat (.int s13.1), .dat (.int x14), .un, .un, .un] _ _
      obtain ⟨s19, hs19, h⟩ := bindS h
      refine ex_cons (ss_whileS (s0 := (s13.2.1, s13.2.2)) _ _ (fun s17 : (List (List Int)) × (List (List Int)) => [.dat (e_ut3iii v_points), .dat (e_t3iii t1), .mu (ms.length + 0), .mu (ms.length + 1), .dat (.int s13.1), .dat (.int x14), .un, .un, .un]) (fun s17 : (List (List Int)) × (List (List Int)) => (ms ++ [(s17.1.map e_li), (s17.2.map e_li)])) (ms.length + 2) _ rfl (fun _ => lenA2) (.cons .dat (.cons .dat (.cons (.mu (by first | omega | (simp only [List.length_append, MD_len, M2_len, List.length_cons, List.length_nil, Sx.blk]; omega))) (.cons (.mu (by first | omega | (simp only [List.length_append, MD_len, M2_len, List.length_cons, List.length_nil, Sx.blk]; omega))) (.cons .dat (.cons .dat (.cons .un (.cons .un (.cons .un .nil)))))))))
        (fun s17 t20 h => by
          obtain ⟨t28, ht28, h⟩ := bindS h
          obtain rfl := someS h
          exact (et_w (ew_andO (et_lt (nobehind _ (by decide) (by decide)) (ee_var 4 rfl (Or.inl rfl) rfl) ee_int) ht28 (fun _ g27 => by obtain ⟨t21, ht21, g27⟩ := bindS g27; obtain ⟨t26, ht26, g27⟩ := bindS g27; obtain rfl := someS g27; exact (ew_and1 (et_val (fun _ _ => rfl) (ee_any T.any (by rfl) (ea_cons (fun _ _ _ p q => pa_cons p q) (ee_lcP [("row", 7)] e_li PyData.bool ((cutL s17.1 (some (s13.1 + 1)) none) : List (List Int)) _ sc_form_in.nd (blkOk_by (N := nm_form_in) (sc := defScope s_form_in) (by decide +kernel)) (fun _ _ => rfl) (it_list (ds := ((cutL s17.1 (some (s13.1 + 1)) none) : List (List Int)).map e_li) (fun X _ h => pi_list h) (ee_is (r' := .new ((cutL s17.1 (some (s13.1 + 1)) none).map e_li)) (ee_slL (ds := (s17.1 : List (List Int)).map e_li) (ee_mu 2 rfl (Or.inl rfl) rfl) (eo_some (ee_add (ee_var 4 rfl (Or.inl rfl) rfl) ee_int)) eo_none (by rw [lresMu, lkP]; rfl)) (by rw [cutD_map])) rfl) (fun _ => rfl) (by first | exact Nat.le_refl _ | (simp only [List.length_append, MD_len, M2_len, List.length_cons, List.length_nil, Sx.blk]; omega)) (fun x22 _ y24 ex g23 => by obtain ⟨t25, ht25, g23⟩ := bindS g23; obtain rfl := someS g23; exact ⟨_, _, by decide, (eg_name 7 sc_form_in.nd rfl (Or.inl rfl) (.inr rfl)), _, (ee_neI (nobehind _ (by decide) (by decide)) (ee_ixL (fun X _ _ p q => pe_ix ix_list p q (fun _ _ => rfl)) (ee_var 7 rfl (Or.inl rfl) rfl) (ee_var 5 rfl (Or.inr (Or.inl rfl)) rfl) rfl (atI_map PyData.int ht25)) ee_int), rfl⟩) ht26 (szO_some ht21).1) ea_nil) rfl))))))
        ) (fun s17 s18 _ h => by
          obtain ⟨t29, ht29, h⟩ := bindS h
          refine ex_cons (ss_drop (fun _ => rfl) (ee_call (r := .dat .none) (ms2 := (ms ++ [(t29.1.map e_li), (t29.2.map e_li)])) g_clear_in (Nat.le_of_ble_eq_true rfl) (by rfl) (ea_cons (fun _ _ _ p q => pa_cons p q) (ee_mu 2 rfl (Or.inl rfl) rfl) (ea_cons (fun _ _ _ p q => pa_cons p q) (ee_mu 3 rfl (Or.inl rfl) rfl) (ea_cons (fun _ _ _ p q => pa_cons p q) (ee_var 5 rfl (Or.inr (Or.inl rfl)) rfl) ea_nil))) ⟨ms ++ [[], []], ms.length + 0, ms.length + 1, s17.1, s17.2, x14, by simp, by simp, by simp, rfl, M2_loc, rfl, t29, ht29, M2_loc⟩ (mu_mu (.inl (by first | omega | (simp only [List.length_append, MD_len, M2_len, List.length_cons, List.length_nil, Sx.blk]; omega))) (mu_mu (.inl (by first | omega | (simp only [List.length_append, MD_len, M2_len, List.length_cons, List.length_nil, Sx.blk]; omega))) (mu_dat mu_nil))))) ?_
          obtain rfl := someS h
          exact ex_nil (turn_go (.cons .dat (.cons .dat (.cons (.mu (by first | omega | (simp only [List.length_append, MD_len, M2_len, List.length_cons, List.length_nil, Sx.blk]; omega))) (.cons (.mu (by first | omega | (simp only [List.length_append, MD_len, M2_len, List.length_cons, List.length_nil, Sx.blk]; omega))) (.cons .dat (.cons .dat (.cons .un (.cons .un (.cons .un .nil))))))))))
        ) hs19) ?_
      obtain ⟨t33, ht33, h⟩ := bindS h
      obtain ⟨j34, hj34, h⟩ := bindS h
      refine ex_cons (ss_join (ρ2 := [.dat (e_ut3iii v_points), .dat (e_t3iii t1), .mu (ms.length + 0), .mu (ms.length + 1), .dat (.int j34.1), .dat (.int x14), .un, .un, .un]) (ms2 := (ms ++ [(j34.2.1.map e_li), (j34.2.2.map e_li)])) (et_w (ew_andO (et_lt (nobehind _ (by decide) (by decide)) (ee_var 4 rfl (Or.inl rfl) rfl) ee_int) ht33 (fun _ g32 => by obtain ⟨t30, ht30, g32⟩ := bindS g32; obtain ⟨t31, ht31, g32⟩ := bindS g32; obtain rfl := someS g32; exact (ew_and1 (et_neI (nobehind _ (by decide) (by decide)) (ee_ixL (fun X _ _ p q => pe_ix ix_list p q (fun _ _ => rfl)) (ee_ixL (fun X _ _ p q => pe_ix ix_list p q (fun _ _ => rfl)) (ee_mu 2 rfl (Or.inl rfl) rfl) (ee_var 4 rfl (Or.inl rfl) rfl) (by rw [lresMu, lkP]; rfl) (atI_map e_li ht30)) (ee_var 5 rfl (Or.inr (Or.inl rfl)) rfl) rfl (atI_map PyData.int ht31)) ee_int))))) rfl (by first | rfl | simp only [List.length_append, MD_len, M2_len, List.length_cons, List.length_nil, Sx.blk])
        (fun z => by
          have h := iteT' z hj34
          show Ex _ _ [.dat (e_ut3iii v_points), .dat (e_t3iii t1), .mu (ms.length + 0), .mu (ms.length + 1), .dat (.int s13.1), .dat (.int x14), .un, .un, .un] _ _
          obtain ⟨t35, ht35, h⟩ := bindS h
          obtain ⟨t36, ht36, h⟩ := bindS h
          obtain ⟨j37, hj37, h⟩ := bindS h
          refine ex_cons (ss_join (ρ2 := [.dat (e_ut3iii v_points), .dat (e_t3iii t1), .mu (ms.length + 0), .mu (ms.length + 1), .dat (.int s13.1), .dat (.int x14), .un, .un, .un]) (ms2 := (ms ++ [(j37.1.map e_li), (j37.2.map e_li)])) (et_lt (nobehind _ (by decide) (by decide)) (ee_ixL (fun X _ _ p q => pe_ix ix_list p q (fun _ _ => rfl)) (ee_ixL (fun X _ _ p q => pe_ix ix_list p q (fun _ _ => rfl)) (ee_mu 2 rfl (Or.inl rfl) rfl) (ee_var 4 rfl (Or.inl rfl) rfl) (by rw [lresMu, lkP]; rfl) (atI_map e_li ht35)) (ee_var 5 rfl (Or.inr (Or.inl rfl)) rfl) rfl (atI_map PyData.int ht36)) ee_int) rfl (by first | rfl | simp only [List.length_append, MD_len, M2_len, List.length_cons, List.length_nil, Sx.blk])
            (fun z => by
              have h := iteT' z hj37
              show Ex _ _ [.dat (e_ut3iii v_points), .dat (e_t3iii t1), .mu (ms.length + 0), .mu (ms.length + 1), .dat (.int s13.1), .dat (.int x14), .un, .un, .un] _ _
              obtain ⟨t38, ht38, h⟩ := bindS h
              obtain ⟨t39, ht39, h⟩ := bindS h
              obtain ⟨t43, ht43, h⟩ := bindS h
              obtain ⟨t44, ht44, h⟩ := bindS h
              obtain ⟨t45, ht45, h⟩ := bindS h
              obtain ⟨t49, ht49, h⟩ := bindS h
              obtain ⟨t50, ht50, h⟩ := bindS h
              obtain ⟨t51, ht51, h⟩ := bindS h
              refine ex_cons (ss_sub2 (k1 := (ms.length + 0)) (k2 := (ms.length + 1)) (ms2 := (ms ++ [(t50.map e_li), (s19.2.map e_li)])) e_li e_li (fun _ => rfl) (fun X hX => (sw_env (env' := env0 (defScope s_form_in)) hX.sc _ _).trans rfl) (fun X _ _ p q => pg_sub p q set_list) (fun X _ _ p q => pg_sub p q set_list) (ea_cons (fun _ _ _ p q => pa_cons p q) (ee_lcP [("one", 8)] PyData.int PyData.int (t38 : List Int) _ sc_form_in.nd (blkOk_by (N := nm_form_in) (sc := defScope s_form_in) (by decide +kernel)) (fun _ _ => rfl) (it_list (ds := (t38 : List Int).map PyData.int) (fun X _ h => pi_list h) (ee_ixL (fun X _ _ p q => pe_ix ix_list p q (fun _ _ => rfl)) (ee_mu 2 rfl (Or.inl rfl) rfl) (ee_var 4 rfl (Or.inl rfl) rfl) (by rw [lresMu, lkP]; rfl) (atI_map e_li ht38)) rfl) (fun _ => rfl) (by first | exact Nat.le_refl _ | (simp only [List.length_append, MD_len, M2_len, List.length_cons, List.length_nil, Sx.blk]; omega)) (fun x40 _ y42 ex g41 => by obtain rfl := someS g41; exact ⟨_, _, by decide, (eg_name 8 sc_form_in.nd rfl (Or.inl rfl) (.inr rfl)), _, (ee_neg (ee_var 8 rfl (Or.inl rfl) rfl)), rfl⟩) ht43 (szO_some ht39).1) (ea_cons (fun _ _ _ p q => pa_cons p q) (ee_lcP [("one", 8)] PyData.int PyData.int (t44 : List Int) _ sc_form_in.nd (blkOk_by (N := nm_form_in) (sc := defScope s_form_in) (by decide +kernel)) (fun _ _ => rfl) (it_list (ds := (t44 : List Int).map PyData.int) (fun X _ h => pi_list h) (ee_ixL (fun X _ _ p q => pe_ix ix_list p q (fun _ _ => rfl)) (ee_mu 3 rfl (Or.inl rfl) rfl) (ee_var 4 rfl (Or.inl rfl) rfl) (by rw [lresMu, lkP]; rfl) (atI_map e_li ht44)) rfl) (fun _ => rfl) (by first | exact Nat.le_refl _ | (simp only [List.length_append, MD_len, M2_len, List.length_cons, List.length_nil, Sx.blk]; omega)) (fun x46 _ y48 ex g47 => by obtain rfl := someS g47; exact ⟨_, _, by decide, (eg_name 8 sc_form_in.nd rfl (Or.inl rfl) (.inr rfl)), _, (ee_neg (ee_var 8 rfl (Or.inl rfl) rfl)), rfl⟩) ht49 (szO_some ht45).1) ea_nil)) rfl rfl (ee_mu 2 rfl (Or.inl rfl) rfl) (ee_var 4 rfl (Or.inl rfl) rfl) (by rw [lkP]; rfl) ht50 (.inl (by first | omega | (simp only [List.length_append, MD_len, M2_len, List.length_cons, List.length_nil, Sx.blk]; omega))) (by rw [stP]; try rfl) (ee_mu 3 rfl (Or.inl rfl) rfl) (ee_var 4 rfl (Or.inl rfl) rfl) (by rw [lkP]; rfl) ht51 (.inl (by first | omega | (simp only [List.length_append, MD_len, M2_len, List.length_cons, List.length_nil, Sx.blk]; omega))) (by rw [stP]; try rfl)) ?_
              obtain rfl := someS h
              exact ex_nil (thru_nx (.cons .dat (.cons .dat (.cons (.mu (by first | omega | (simp only [List.length_append, MD_len, M2_len, List.length_cons, List.length_nil, Sx.blk]; omega))) (.cons (.mu (by first | omega | (simp only [List.length_append, MD_len, M2_len, List.length_cons, List.length_nil, Sx.blk]; omega))) (.cons .dat (.cons .dat (.cons .un (.cons .un (.cons .un .nil))))))))))
            )
            (fun z => by
              have h := iteF' z hj37
              obtain rfl := someS h
              exact ex_nil (thru_nx (.cons .dat (.cons .dat (.cons (.mu (by first | omega | (simp only [List.length_append, MD_len, M2_len, List.length_cons, List.length_nil, Sx.blk]; omega))) (.cons (.mu (by first | omega | (simp only [List.length_append, MD_len, M2_len, List.length_cons, List.length_nil, Sx.blk]; omega))) (.cons .dat (.cons .dat (.cons .un (.cons .un (.cons .un .nil))))))))))
            )) ?_
          obtain ⟨j52, hj52, h⟩ := bindS h
          refine ex_cons (ss_join (ρ2 := [.dat (e_ut3iii v_points), .dat (e_t3iii t1), .mu (ms.length + 0), .mu (ms.length + 1), .dat (.int s13.1), .dat (.int x14), .un, .un, .un]) (ms2 := (ms ++ [(j52.1.map e_li), (j52.2.map e_li)])) (et_eqI (nobehind _ (by decide) (by decide)) (ee_var 4 rfl (Or.inl rfl) rfl) ee_int) rfl (by first | rfl | simp only [List.length_append, MD_len, M2_len, List.length_cons, List.length_nil, Sx.blk])
            (fun z => by
              have h := iteT' z hj52
              show Ex _ _ [.dat (e_ut3iii v_points), .dat (e_t3iii t1), .mu (ms.length + 0), .mu (ms.length + 1), .dat (.int s13.1), .dat (.int x14), .un, .un, .un] _ _
              obtain ⟨t53, ht53, h⟩ := bindS h
              obtain ⟨t54, ht54, h⟩ := bindS h
              obtain ⟨t55, ht55, h⟩ := bindS h
              obtain ⟨t56, ht56, h⟩ := bindS h
              obtain ⟨t57, ht57, h⟩ := bindS h
              obtain ⟨t58, ht58, h⟩ := bindS h
              refine ex_cons (ss_drop (fun _ => rfl) (ee_call (r := .dat .none) (ms2 := (ms ++ [(t58.1.map e_li), (t58.2.map e_li)])) g_take_in (Nat.le_of_ble_eq_true rfl) (by rfl) (ea_cons (fun _ _ _ p q => pa_cons p q) (ee_mu 2 rfl (Or.inl rfl) rfl) (ea_cons (fun _ _ _ p q => pa_cons p q) (ee_mu 3 rfl (Or.inl rfl) rfl) (ea_cons (fun _ _ _ p q => pa_cons p q) ee_int (ea_cons (fun _ _ _ p q => pa_cons p q) ee_int (ea_cons (fun _ _ _ p q => pa_cons p q) (ee_fdivO (ee_ixL (fun X _ _ p q => pe_ix ix_list p q (fun _ _ => rfl)) (ee_ixL (fun X _ _ p q => pe_ix ix_list p q (fun _ _ => rfl)) (ee_mu 2 rfl (Or.inl rfl) rfl) ee_int (by rw [lresMu, lkP]; rfl) (atI_map e_li ht53)) (ee_var 5 rfl (Or.inr (Or.inl rfl)) rfl) rfl (atI_map PyData.int ht54)) (ee_ixL (fun X _ _ p q => pe_ix ix_list p q (fun _ _ => rfl)) (ee_ixL (fun X _ _ p q => pe_ix ix_list p q (fun _ _ => rfl)) (ee_mu 2 rfl (Or.inl rfl) rfl) ee_int (by rw [lresMu, lkP]; rfl) (atI_map e_li ht55)) (ee_var 5 rfl (Or.inr (Or.inl rfl)) rfl) rfl (atI_map PyData.int ht56)) ht57) ea_nil))))) ⟨ms ++ [[], []], ms.length + 0, ms.length + 1, j37.1, j37.2, 0, 1, t57, by simp, by simp, by simp, rfl, M2_loc, rfl, t58, ht58, M2_loc⟩ (mu_mu (.inl (by first | omega | (simp only [List.length_append, MD_len, M2_len, List.length_cons, List.length_nil, Sx.blk]; omega))) (mu_mu (.inl (by first | omega | (simp only [List.length_append, MD_len, M2_len, List.length_cons, List.length_nil, Sx.blk]; omega))) (mu_dat (mu_dat (mu_dat mu_nil))))))) ?_
              obtain rfl := someS h
              exact ex_nil (thru_nx (.cons .dat (.cons .dat (.cons (.mu (by first | omega | (simp only [List.length_append, MD_len, M2_len, List.length_cons, List.length_nil, Sx.blk]; omega))) (.cons (.mu (by first | omega | (simp only [List.length_append, MD_len, M2_len, List.length_cons, List.length_nil, Sx.blk]; omega))) (.cons .dat (.cons .dat (.cons .un (.cons .un (.cons .un .nil))))))))))
            )
            (fun z => by
              have h := iteF' z hj52
              obtain rfl := someS h
              exact ex_nil (thru_nx (.cons .dat (.cons .dat (.cons (.mu (by first | omega | (simp only [List.length_append, MD_len, M2_len, List.length_cons, List.length_nil, Sx.blk]; omega))) (.cons (.mu (by first | omega | (simp only [List.length_append, MD_len, M2_len, List.length_cons, List.length_nil, Sx.blk]; omega))) (.cons .dat (.cons .dat (.cons .un (.cons .un (.cons .un .nil))))))))))
            )) ?_
          refine ex_cons (ss_aug 4 sc_form_in.nd rfl (Or.inl rfl) (.inl rfl) (fun _ => ip_add) rfl ee_int) ?_
          obtain rfl := someS h
          exact ex_nil (thru_nx (.cons .dat (.cons .dat (.cons (.mu (by first | omega | (simp only [List.length_append, MD_len, M2_len, List.length_cons, List.length_nil, Sx.blk]; omega))) (.cons (.mu (by first | omega | (simp only [List.length_append, MD_len, M2_len, List.length_cons, List.length_nil, Sx.blk]; omega))) (.cons .dat (.cons .dat (.cons .un (.cons .un (.cons .un .nil))))))))))
        )
        (fun z => by
          have h := iteF' z hj34
          obtain rfl := someS h
          exact ex_nil (thru_nx (.cons .dat (.cons .dat (.cons (.mu (by first | omega | (simp only [List.length_append, MD_len, M2_len, List.length_cons, List.length_nil, Sx.blk]; omega))) (.cons (.mu (by first | omega | (simp only [List.length_append, MD_len, M2_len, List.length_cons, List.length_nil, Sx.blk]; omega))) (.cons .dat (.cons .dat (.cons .un (.cons .un (.cons .un .nil))))))))))
        )) ?_
      obtain rfl := someS h
      exact ex_nil (turn_go (.cons .dat (.cons .dat (.cons (.mu (by first | omega | (simp only [List.length_append, MD_len, M2_len, List.length_cons, List.length_nil, Sx.blk]; omega))) (.cons (.mu (by first | omega | (simp only [List.length_append, MD_len, M2_len, List.length_cons, List.length_nil, Sx.blk]; omega))) (.cons .dat (.cons .un (.cons .un (.cons .un (.cons .un .nil))))))))))
    ⟩) hs16) ?_
  show Ex _ _ [.dat (e_ut3iii v_points), .dat (e_t3iii t1), .mu (ms.length + 0), .mu (ms.length + 1), .dat (.int s16.1), .un, .un, .un, .un] _ _
  obtain ⟨t59, ht59, h⟩ := bindS h
  obtain ⟨t63, ht63, h⟩ := bindS h
  obtain ⟨t64, ht64, h⟩ := bindS h
  obtain ⟨t68, ht68, h⟩ := bindS h
  obtain rfl := someS h
  exact ex_out (ss_ret (ee_tup (ea_cons (fun _ _ _ p q => pa_cons p q) (ee_tuple T.tuple (by rfl) (ea_cons (fun _ _ _ p q => pa_cons p q) (ee_lcP [("row", 7)] e_li e_ui (s16.2.1 : List (List Int)) _ sc_form_in.nd (blkOk_by (N := nm_form_in) (sc := defScope s_form_in) (by decide +kernel)) (fun _ _ => rfl) (it_list (ds := (s16.2.1 : List (List Int)).map e_li) (fun X _ h => pi_list h) (ee_mu 2 rfl (Or.inl rfl) rfl) (by rw [lresMu, lkP]; rfl)) (fun _ => (by rw [lresMu, List.append_assoc, lkP]; rfl)) (by first | exact Nat.le_refl _ | (simp only [List.length_append, MD_len, M2_len, List.length_cons, List.length_nil, Sx.blk]; omega)) (fun x60 _ y62 ex g61 => by obtain rfl := someS g61; exact ⟨_, _, by decide, (eg_name 7 sc_form_in.nd rfl (Or.inl rfl) (.inr rfl)), _, (ee_tuple T.tuple (by rfl) (ea_cons (fun _ _ _ p q => pa_cons p q) (ee_var 7 rfl (Or.inl rfl) rfl) ea_nil) rfl), rfl⟩) ht63 (szO_some ht59).1) ea_nil) rfl) (ea_cons (fun _ _ _ p q => pa_cons p q) (ee_tuple T.tuple (by rfl) (ea_cons (fun _ _ _ p q => pa_cons p q) (ee_lcP [("row", 7)] e_li e_ui (s16.2.2 : List (List Int)) _ sc_form_in.nd (blkOk_by (N := nm_form_in) (sc := defScope s_form_in) (by decide +kernel)) (fun _ _ => rfl) (it_list (ds := (s16.2.2 : List (List Int)).map e_li) (fun X _ h => pi_list h) (ee_mu 3 rfl (Or.inl rfl) rfl) (by rw [lresMu, lkP]; rfl)) (fun _ => (by rw [lresMu, List.append_assoc, lkP]; rfl)) (by first | exact Nat.le_refl _ | (simp only [List.length_append, MD_len, M2_len, List.length_cons, List.length_nil, Sx.blk]; omega)) (fun x65 _ y67 ex g66 => by obtain rfl := someS g66; exact ⟨_, _, by decide, (eg_name 7 sc_form_in.nd rfl (Or.inl rfl) (.inr rfl)), _, (ee_tuple T.tuple (by rfl) (ea_cons (fun _ _ _ p q => pa_cons p q) (ee_var 7 rfl (Or.inl rfl) rfl) ea_nil) rfl), rfl⟩) ht68 (szO_some ht64).1) ea_nil) rfl) ea_nil)) rfl (lnOk 2 rfl (by decide)))) rfl .dat

def s_is_form_like : Stmt := topS 36
def nm_is_form_like : List Str := ["value", "row", "one"]
theorem sc_is_form_like : FnScope nm_is_form_like ["value"] (defScope s_is_form_like) := ⟨rfl, rfl, rfl, by decide +kernel, rfl, by decide +kernel, by decide +kernel⟩
def m_is_form_like (v_value : D) : Option (Bool) := (if (!(isi "tuple" v_value)) = true then some true else ((tupD v_value).bind fun t1 => (if (decide ((t1.length : Int) ≠ 2)) = true then some true else ((tupD v_value).bind fun t2 => (szO t2).bind fun t3 => (mapO (fun (x4 : D) => some (isi "tuple" x4)) t2).bind fun t7 => some (!((t7 : List Bool).all id)))).bind fun t9 => some t9)).bind fun t11 => if t11 = true then (some false) else ((tupD v_value).bind fun t13 => (map2O (fun (x14 : D) => (tupD x14).bind fun t18 => some t18) (fun (x14 : D) (y20 : D) => some ((isi "int" y20) && (!(isi "bool" y20)))) t13).bind fun t23 => (szO t23).bind fun t24 => some ((t23 : List Bool).all id))
def R_is_form_like : Rel := fun rs ms r ms2 => ∃ (v_value : D), rs = [.dat v_value] ∧ ms2 = ms ∧ ∃ v : Bool, m_is_form_like v_value = some v ∧ r = .dat (.bool v)
theorem kn_is_form_like (T : Txt K mg) {f : Addr} {fd : FuncData} (Fu : Fun K "is_form_like" "is_form_like" s_is_form_like f fd) (hmf : mg "is_form_like" = some (.ref f))  : Kn P w K mg base 1 "is_form_like" R_is_form_like := by
  have hb := Fu.binds (ps := ["value"]) fun _ _ _ _ _ _ us hl => match us, hl with | [_], _ => rfl
  refine kn_of (kk := 0) Fu sc_is_form_like hb hmf rfl (by decide) (by rintro rs ms0 r ms ⟨v_value, rfl, rfl, v, h, rfl⟩; exact ⟨rfl, rfl⟩) ?_
  rintro rs ms0 r ms ⟨v_value, rfl, rfl, v, h, rfl⟩
  show Ex _ _ [.dat v_value, .un, .un] ms (fun o => Fin ms o (.dat (.bool v)))
  unfold m_is_form_like at h
  show Ex _ _ [.dat v_value, .un, .un] _ _
  obtain ⟨t11, ht11, h⟩ := bindS h
  rcases boolCases t11 with hc12 | hc12
  · have h := iteT' hc12 h
    refine ex_ifT (et_w (ew_orO (et_not (et_val (fun _ _ => rfl) (ee_isi T.isinstance (by rfl) (isi_tuple v_value) (ea_cons (fun _ _ _ p q => pa_cons p q) (ee_var 0 rfl (Or.inl rfl) rfl) (ea_cons (fun _ _ _ p q => pa_cons p q) (ee_ty T.tuple (by rfl) bt_tuple) ea_nil))))) ht11 (fun _ g10 => by obtain ⟨t1, ht1, g10⟩ := bindS g10; obtain ⟨t9, ht9, g10⟩ := bindS g10; obtain rfl := someS g10; exact (ew_orO (et_neI (nobehind _ (by decide) (by decide)) (ee_lenT T.len (by rfl) (ea_cons (fun _ _ _ p q => pa_cons p q) (ee_is (ee_var 0 rfl (Or.inl rfl) rfl) (by rw [tupD_some ht1])) ea_nil)) ee_int) ht9 (fun _ g8 => by obtain ⟨t2, ht2, g8⟩ := bindS g8; obtain ⟨t3, ht3, g8⟩ := bindS g8; obtain ⟨t7, ht7, g8⟩ := bindS g8; obtain rfl := someS g8; exact (ew_or1 (et_not (et_val (fun _ _ => rfl) (ee_all T.all (by rfl) (ea_cons (fun _ _ _ p q => pa_cons p q) (ee_lcP [("row", 1)] (fun d : D => d) PyData.bool t2 _ sc_is_form_like.nd (blkOk_by (N := nm_is_form_like) (sc := defScope s_is_form_like) (by decide +kernel)) (fun _ _ => rfl) (it_D (it_tup (fun X _ h => pi_tup h) (ee_is (ee_var 0 rfl (Or.inl rfl) rfl) (by rw [tupD_some ht2])))) (fun _ => trivial) (by first | exact Nat.le_refl _ | (simp only [List.length_append, MD_len, M2_len, List.length_cons, List.length_nil, Sx.blk]; omega)) (fun x4 _ y6 ex g5 => by obtain rfl := someS g5; exact ⟨_, _, by decide, (eg_name 1 sc_is_form_like.nd rfl (Or.inl rfl) (.inr rfl)), _, (ee_isi T.isinstance (by rfl) (isi_tuple x4) (ea_cons (fun _ _ _ p q => pa_cons p q) (ee_var 1 rfl (Or.inl rfl) rfl) (ea_cons (fun _ _ _ p q => pa_cons p q) (ee_ty T.tuple (by rfl) bt_tuple) ea_nil))), rfl⟩) ht7 (szO_some ht3).1) ea_nil) rfl))))))))) hc12 ?_
    obtain rfl := someS h
    exact ex_out (ss_ret ee_bool) rfl fin_dat
  · have h := iteF' hc12 h
    refine ex_ifF0 (et_w (ew_orO (et_not (et_val (fun _ _ => rfl) (ee_isi T.isinstance (by rfl) (isi_tuple v_value) (ea_cons (fun _ _ _ p q => pa_cons p q) (ee_var 0 rfl (Or.inl rfl) rfl) (ea_cons (fun _ _ _ p q => pa_cons p q) (ee_ty T.tuple (by rfl) bt_tuple) ea_nil))))) ht11 (fun _ g10 => by obtain ⟨t1, ht1, g10⟩ := bindS g10; obtain ⟨t9, ht9, g10⟩ := bindS g10; obtain rfl := someS g10; exact (ew_orO (et_neI (nobehind _ (by decide) (by decide)) (ee_lenT T.len (by rfl) (ea_cons (fun _ _ _ p q => pa_cons p q) (ee_is (ee_var 0 rfl (Or.inl rfl) rfl) (by rw [tupD_some ht1])) ea_nil)) ee_int) ht9 (fun _ g8 => by obtain ⟨t2, ht2, g8⟩ := bindS g8; obtain ⟨t3, ht3, g8⟩ := bindS g8; obtain ⟨t7, ht7, g8⟩ := bindS g8; obtain rfl := someS g8; exact (ew_or1 (et_not (et_val (fun _ _ => rfl) (ee_all T.all (by rfl) (ea_cons (fun _ _ _ p q => pa_cons p q) (ee_lcP [("row", 1)] (fun d : D => d) PyData.bool t2 _ sc_is_form_like.nd (blkOk_by (N := nm_is_form_like) (sc := defScope s_is_form_like) (by decide +kernel)) (fun _ _ => rfl) (it_D (it_tup (fun X _ h => pi_tup h) (ee_is (ee_var 0 rfl (Or.inl rfl) rfl) (by rw [tupD_some ht2])))) (fun _ => trivial) (by first | exact Nat.le_refl _ | (simp only [List.length_append, MD_len, M2_len, List.length_cons, List.length_nil, Sx.blk]; omega)) (fun x4 _ y6 ex g5 => by obtain rfl := someS g5; exact ⟨_, _, by decide, (eg_name 1 sc_is_form_like.nd rfl (Or.inl rfl) (.inr rfl)), _, (ee_isi T.isinstance (by rfl) (isi_tuple x4) (ea_cons (fun _ _ _ p q => pa_cons p q) (ee_var 1 rfl (Or.inl rfl) rfl) (ea_cons (fun _ _ _ p q => pa_cons p q) (ee_ty T.tuple (by rfl) bt_tuple) ea_nil))), rfl⟩) ht7 (szO_some ht3).1) ea_nil) rfl))))))))) hc12 ?_
    obtain ⟨t13, ht13, h⟩ := bindS h
    obtain ⟨t23, ht23, h⟩ := bindS h
    obtain ⟨t24, ht24, h⟩ := bindS h
    obtain rfl := someS h
    exact ex_out (ss_ret (ee_all T.all (by rfl) (ea_cons (fun _ _ _ p q => pa_cons p q) (ee_lc2P [("row", 1), ("one", 2)] [2] (fun d : D => d) (fun d : D => d) PyData.bool t13 (fun (x14 : D) => (tupD x14).bind fun t18 => some t18) (fun (x14 : D) (y20 : D) => some ((isi "int" y20) && (!(isi "bool" y20)))) sc_is_form_like.nd (blkOk_by (N := nm_is_form_like) (sc := defScope s_is_form_like) (by decide +kernel)) (by decide) (fun _ _ => rfl) (fun _ _ => rfl) (it_D (it_tup (fun X _ h => pi_tup h) (ee_is (ee_var 0 rfl (Or.inl rfl) rfl) (by rw [tupD_some ht13])))) (fun _ => trivial) (by first | exact Nat.le_refl _ | (simp only [List.length_append, MD_len, M2_len, List.length_cons, List.length_nil, Sx.blk]; omega)) (fun x14 _ b15 l16 g17 => by obtain ⟨t18, ht18, g17⟩ := bindS g17; obtain rfl := someS g17; exact ⟨_, _, by decide, (eg_name 1 sc_is_form_like.nd rfl (Or.inl rfl) (.inr rfl)), _, (it_D (it_tup (fun X _ h => pi_tup h) (ee_is (ee_var 1 rfl (Or.inl rfl) rfl) (by rw [tupD_some ht18])))), fun _ => trivial, fun y20 _ z21 l19 g22 => by rw [List.dropLast_concat]; obtain rfl := someS g22; exact ⟨_, _, by decide, (eg_name 2 sc_is_form_like.nd rfl (Or.inl rfl) (.inr rfl)), _, (ee_andV (ee_isi T.isinstance (by rfl) (isi_int y20) (ea_cons (fun _ _ _ p q => pa_cons p q) (ee_var 2 rfl (Or.inl rfl) rfl) (ea_cons (fun _ _ _ p q => pa_cons p q) (ee_ty T.int (by rfl) bt_int) ea_nil))) (fun _ => (ee_one (ee_not (ee_isi T.isinstance (by rfl) (isi_bool y20) (ea_cons (fun _ _ _ p q => pa_cons p q) (ee_var 2 rfl (Or.inl rfl) rfl) (ea_cons (fun _ _ _ p q => pa_cons p q) (ee_ty T.bool (by rfl) bt_bool) ea_nil))))))), rfl⟩⟩) ht23 (szO_some ht24).1) ea_nil) rfl)) rfl fin_dat

def s_is_same_paper : Stmt := topS 35
def nm_is_same_paper : List Str := ["points", "far_points", "value", "forms", "one"]
theorem sc_is_same_paper : FnScope nm_is_same_paper ["points", "far_points", "value"] (defScope s_is_same_paper) := ⟨rfl, rfl, rfl, by decide +kernel, rfl, by decide +kernel, by decide +kernel⟩
def m_is_same_paper (v_points : (List (Int × Int × Int))) (v_far_points : (List (Int × Int × Int))) (v_value : D) : Option (Bool) := (m_require_rows v_points v_far_points).bind fun t1 => (if (!(isi "tuple" v_value)) = true then some true else ((tupD v_value).bind fun t2 => (if (!decide ((t2.length : Int) ∈ ([2, 3] : List Int))) = true then some true else ((tupD v_value).bind fun t3 => (ixO t3 0).bind fun t4 => some (!(isi "str" t4)))).bind fun t6 => some t6)).bind fun t8 => if t8 = true then (some false) else ((tupD v_value).bind fun t10 => if (decide ((t10.length : Int) = 2)) = true then ((tupD v_value).bind fun t12 => (ixO t12 0).bind fun t13 => (eqO t13 (.str (Str.ofString "move"))).bind fun t14 => (if t14 = true then ((tupD v_value).bind fun t15 => (ixO t15 1).bind fun t16 => (m_is_whole_move_of t16).bind fun t17 => (if t17 = true then ((tupD v_value).bind fun t18 => (ixO t18 1).bind fun t19 => (u_d_t2t2t2iit2iit2ii t19).bind fun t20 => (m_do_lead t20 v_points v_far_points).bind fun t21 => some t21) else some false).bind fun t22 => some t22) else some false).bind fun t24 => some t24) else ((m_form_in v_points).bind fun t26 => (m_form_in v_far_points).bind fun t27 => (tupD v_value).bind fun t28 => (ixO t28 0).bind fun t29 => (eqO t29 (.str (Str.ofString "unlike"))).bind fun t30 => (if (!t30) = true then some true else ((eqO (e_uui t26.1) (e_uui t27.1)).bind fun t31 => (if t31 = true then some true else ((tupD v_value).bind fun t32 => (tupD (.tuple (cutD t32 (some 1) none))).bind fun t33 => (szO t33).bind fun t34 => (mapO (fun (x35 : D) => (m_is_form_like x35).bind fun t38 => some t38) t33).bind fun t39 => some (!((t39 : List Bool).all id)))).bind fun t41 => some t41)).bind fun t43 => if t43 = true then (some false) else ((tupD v_value).bind fun t45 => (eqO (.tuple (cutD t45 (some 1) none)) (e_t2uuiuui (t26.1, t27.1))).bind fun t46 => some t46)))
def R_is_same_paper : Rel := fun rs ms r ms2 => ∃ (v_points : (List (Int × Int × Int))) (v_far_points : (List (Int × Int × Int))) (v_value : D), rs = [.dat (e_ut3iii v_points), .dat (e_ut3iii v_far_points), .dat v_value] ∧ ms2 = ms ∧ ∃ v : Bool, m_is_same_paper v_points v_far_points v_value = some v ∧ r = .dat (.bool v)
theorem kn_is_same_paper (T : Txt K mg) {f : Addr} {fd : FuncData} (Fu : Fun K "is_same_paper" "is_same_paper" s_is_same_paper f fd) (hmf : mg "is_same_paper" = some (.ref f)) (g_require_rows : Kn P w K mg base 4 "require_rows" R_require_rows) (g_is_whole_move_of : Kn P w K mg base 4 "is_whole_move_of" R_is_whole_move_of) (g_do_lead : Kn P w K mg base 2 "do_lead" R_do_lead) (g_form_in : Kn P w K mg base 3 "form_in" R_form_in) (g_is_form_like : Kn P w K mg base 1 "is_form_like" R_is_form_like) : Kn P w K mg base 5 "is_same_paper" R_is_same_paper := by
  have hb := Fu.binds (ps := ["points", "far_points", "value"]) fun _ _ _ _ _ _ us hl => match us, hl with | [_, _, _], _ => rfl
  refine kn_of (kk := 4) Fu sc_is_same_paper hb hmf rfl (by decide) (by rintro rs ms0 r ms ⟨v_points, v_far_points, v_value, rfl, rfl, v, h, rfl⟩; exact ⟨rfl, rfl⟩) ?_
  rintro rs ms0 r ms ⟨v_points, v_far_points, v_value, rfl, rfl, v, h, rfl⟩
  show Ex _ _ [.dat (e_ut3iii v_points), .dat (e_ut3iii v_far_points), .dat v_value, .un, .un] ms (fun o => Fin ms o (.dat (.bool v)))
  unfold m_is_same_paper at h
  show Ex _ _ [.dat (e_ut3iii v_points), .dat (e_ut3iii v_far_points), .dat v_value, .un, .un] _ _
  obtain ⟨t1, ht1, h⟩ := bindS h
  refine ex_cons (ss_drop (fun _ => rfl) (ee_call g_require_rows (Nat.le_of_ble_eq_true rfl) (by rfl) (ea_cons (fun _ _ _ p q => pa_cons p q) (ee_var 0 rfl (Or.inl rfl) rfl) (ea_cons (fun _ _ _ p q => pa_cons p q) (ee_var 1 rfl (Or.inl rfl) rfl) ea_nil)) ⟨v_points, v_far_points, rfl, rfl, t1, ht1, rfl⟩ (mu_dat (mu_dat mu_nil)))) ?_
  obtain ⟨t8, ht8, h⟩ := bindS h
  rcases boolCases t8 with hc9 | hc9
  · have h := iteT' hc9 h
    refine ex_ifT (et_w (ew_orO (et_not (et_val (fun _ _ => rfl) (ee_isi T.isinstance (by rfl) (isi_tuple v_value) (ea_cons (fun _ _ _ p q => pa_cons p q) (ee_var 2 rfl (Or.inl rfl) rfl) (ea_cons (fun _ _ _ p q => pa_cons p q) (ee_ty T.tuple (by rfl) bt_tuple) ea_nil))))) ht8 (fun _ g7 => by obtain ⟨t2, ht2, g7⟩ := bindS g7; obtain ⟨t6, ht6, g7⟩ := bindS g7; obtain rfl := someS g7; exact (ew_orO (et_notInI (ns := [2, 3]) rfl (ee_lenT T.len (by rfl) (ea_cons (fun _ _ _ p q => pa_cons p q) (ee_is (ee_var 2 rfl (Or.inl rfl) rfl) (by rw [tupD_some ht2])) ea_nil)) (ee_is (ee_tup (ea_cons (fun _ _ _ p q => pa_cons p q) ee_int (ea_cons (fun _ _ _ p q => pa_cons p q) ee_int ea_nil)) rfl (lnOk 2 rfl (by decide))) (by rfl))) ht6 (fun _ g5 => by obtain ⟨t3, ht3, g5⟩ := bindS g5; obtain ⟨t4, ht4, g5⟩ := bindS g5; obtain rfl := someS g5; exact (ew_or1 (et_not (et_val (fun _ _ => rfl) (ee_isi T.isinstance (by rfl) (isi_str t4) (ea_cons (fun _ _ _ p q => pa_cons p q) (ee_ixT (fun X _ _ p q => pe_ix ix_tup p q (fun _ _ => rfl)) (ee_is (ee_var 2 rfl (Or.inl rfl) rfl) (by rw [tupD_some ht3])) ee_int ht4) (ea_cons (fun _ _ _ p q => pa_cons p q) (ee_ty T.str (by rfl) bt_str) ea_nil))))))))))) hc9 ?_
    obtain rfl := someS h
    exact ex_out (ss_ret ee_bool) rfl fin_dat
  · have h := iteF' hc9 h
    refine ex_ifF0 (et_w (ew_orO (et_not (et_val (fun _ _ => rfl) (ee_isi T.isinstance (by rfl) (isi_tuple v_value) (ea_cons (fun _ _ _ p q => pa_cons p q) (ee_var 2 rfl (Or.inl rfl) rfl) (ea_cons (fun _ _ _ p q => pa_cons p q) (ee_ty T.tuple (by rfl) bt_tuple) ea_nil))))) ht8 (fun _ g7 => by obtain ⟨t2, ht2, g7⟩ := bindS g7; obtain ⟨t6, ht6, g7⟩ := bindS g7; obtain rfl := someS g7; exact (ew_orO (et_notInI (ns := [2, 3]) rfl (ee_lenT T.len (by rfl) (ea_cons (fun _ _ _ p q => pa_cons p q) (ee_is (ee_var 2 rfl (Or.inl rfl) rfl) (by rw [tupD_some ht2])) ea_nil)) (ee_is (ee_tup (ea_cons (fun _ _ _ p q => pa_cons p q) ee_int (ea_cons (fun _ _ _ p q => pa_cons p q) ee_int ea_nil)) rfl (lnOk 2 rfl (by decide))) (by rfl))) ht6 (fun _ g5 => by obtain ⟨t3, ht3, g5⟩ := bindS g5; obtain ⟨t4, ht4, g5⟩ := bindS g5; obtain rfl := someS g5; exact (ew_or1 (et_not (et_val (fun _ _ => rfl) (ee_isi T.isinstance (by rfl) (isi_str t4) (ea_cons (fun _ _ _ p q => pa_cons p q) (ee_ixT (fun X _ _ p q => pe_ix ix_tup p q (fun _ _ => rfl)) (ee_is (ee_var 2 rfl (Or.inl rfl) rfl) (by rw [tupD_some ht3])) ee_int ht4) (ea_cons (fun _ _ _ p q => pa_cons p q) (ee_ty T.str (by rfl) bt_str) ea_nil))))))))))) hc9 ?_
    obtain ⟨t10, ht10, h⟩ := bindS h
    rcases boolCases (decide ((t10.length : Int) = 2)) with hc11 | hc11
    · have h := iteT' hc11 h
      refine ex_ifT (et_eqI (nobehind _ (by decide) (by decide)) (ee_lenT T.len (by rfl) (ea_cons (fun _ _ _ p q => pa_cons p q) (ee_is (ee_var 2 rfl (Or.inl rfl) rfl) (by rw [tupD_some ht10])) ea_nil)) ee_int) hc11 ?_
      obtain ⟨t12, ht12, h⟩ := bindS h
      obtain ⟨t13, ht13, h⟩ := bindS h
      obtain ⟨t14, ht14, h⟩ := bindS h
      obtain ⟨t24, ht24, h⟩ := bindS h
      obtain rfl := someS h
      exact ex_out (ss_ret (ee_andO (ee_eqO (nobehind _ (by decide) (by decide)) (ee_ixT (fun X _ _ p q => pe_ix ix_tup p q (fun _ _ => rfl)) (ee_is (ee_var 2 rfl (Or.inl rfl) rfl) (by rw [tupD_some ht12])) ee_int ht13) (ee_gstr T.c_MOVE (by rfl)) rfl rfl ht14) ht24 (fun _ g25 => by obtain ⟨t15, ht15, g25⟩ := bindS g25; obtain ⟨t16, ht16, g25⟩ := bindS g25; obtain ⟨t17, ht17, g25⟩ := bindS g25; obtain ⟨t22, ht22, g25⟩ := bindS g25; obtain rfl := someS g25; exact (ee_andO (ee_call g_is_whole_move_of (Nat.le_of_ble_eq_true rfl) (by rfl) (ea_cons (fun _ _ _ p q => pa_cons p q) (ee_ixT (fun X _ _ p q => pe_ix ix_tup p q (fun _ _ => rfl)) (ee_is (ee_var 2 rfl (Or.inl rfl) rfl) (by rw [tupD_some ht15])) ee_int ht16) ea_nil) ⟨t16, rfl, rfl, t17, ht17, rfl⟩ (mu_dat mu_nil)) ht22 (fun _ g23 => by obtain ⟨t18, ht18, g23⟩ := bindS g23; obtain ⟨t19, ht19, g23⟩ := bindS g23; obtain ⟨t20, ht20, g23⟩ := bindS g23; obtain ⟨t21, ht21, g23⟩ := bindS g23; obtain rfl := someS g23; exact (ee_one (ee_call g_do_lead (Nat.le_of_ble_eq_true rfl) (by rfl) (ea_cons (fun _ _ _ p q => pa_cons p q) (ee_is (ee_ixT (fun X _ _ p q => pe_ix ix_tup p q (fun _ _ => rfl)) (ee_is (ee_var 2 rfl (Or.inl rfl) rfl) (by rw [tupD_some ht18])) ee_int ht19) (congrArg Rs.dat (u_d_t2t2t2iit2iit2ii_some ht20))) (ea_cons (fun _ _ _ p q => pa_cons p q) (ee_var 0 rfl (Or.inl rfl) rfl) (ea_cons (fun _ _ _ p q => pa_cons p q) (ee_var 1 rfl (Or.inl rfl) rfl) ea_nil))) ⟨t20, v_points, v_far_points, rfl, rfl, t21, ht21, rfl⟩ (mu_dat (mu_dat (mu_dat mu_nil)))))))))) rfl fin_dat
    · have h := iteF' hc11 h
      refine ex_ifF0 (et_eqI (nobehind _ (by decide) (by decide)) (ee_lenT T.len (by rfl) (ea_cons (fun _ _ _ p q => pa_cons p q) (ee_is (ee_var 2 rfl (Or.inl rfl) rfl) (by rw [tupD_some ht10])) ea_nil)) ee_int) hc11 ?_
      obtain ⟨t26, ht26, h⟩ := bindS h
      obtain ⟨t27, ht27, h⟩ := bindS h
      refine ex_cons (ss_set 3 sc_is_same_paper.nd rfl (Or.inl rfl) (.inl rfl) (fun _ => rfl) (ee_tup (ea_cons (fun _ _ _ p q => pa_cons p q) (ee_ixT (fun X _ _ p q => pe_ix ix_tup p q (fun _ _ => rfl)) (ee_call g_form_in (Nat.le_of_ble_eq_true rfl) (by rfl) (ea_cons (fun _ _ _ p q => pa_cons p q) (ee_var 0 rfl (Or.inl rfl) rfl) ea_nil) ⟨v_points, rfl, rfl, t26, ht26, rfl⟩ (mu_dat mu_nil)) ee_int (by rfl)) (ea_cons (fun _ _ _ p q => pa_cons p q) (ee_ixT (fun X _ _ p q => pe_ix ix_tup p q (fun _ _ => rfl)) (ee_call g_form_in (Nat.le_of_ble_eq_true rfl) (by rfl) (ea_cons (fun _ _ _ p q => pa_cons p q) (ee_var 1 rfl (Or.inl rfl) rfl) ea_nil) ⟨v_far_points, rfl, rfl, t27, ht27, rfl⟩ (mu_dat mu_nil)) ee_int (by rfl)) ea_nil)) rfl (lnOk 2 rfl (by decide))) rfl) ?_
      show Ex _ _ [.dat (e_ut3iii v_points), .dat (e_ut3iii v_far_points), .dat v_value, .dat (e_t2uuiuui (t26.1, t27.1)), .un] _ _
      obtain ⟨t28, ht28, h⟩ := bindS h
      obtain ⟨t29, ht29, h⟩ := bindS h
      obtain ⟨t30, ht30, h⟩ := bindS h
      obtain ⟨t43, ht43, h⟩ := bindS h
      rcases boolCases t43 with hc44 | hc44
      · have h := iteT' hc44 h
        refine ex_ifT (et_w (ew_orO (et_neO (nobehind _ (by decide) (by decide)) (ee_ixT (fun X _ _ p q => pe_ix ix_tup p q (fun _ _ => rfl)) (ee_is (ee_var 2 rfl (Or.inl rfl) rfl) (by rw [tupD_some ht28])) ee_int ht29) (ee_gstr T.c_UNLIKE (by rfl)) rfl rfl ht30) ht43 (fun _ g42 => by obtain ⟨t31, ht31, g42⟩ := bindS g42; obtain ⟨t41, ht41, g42⟩ := bindS g42; obtain rfl := someS g42; exact (ew_orO (et_eqO (nobehind _ (by decide) (by decide)) (ee_ixT (fun X _ _ p q => pe_ix ix_tup p q (fun _ _ => rfl)) (ee_var 3 rfl (Or.inl rfl) rfl) ee_int (by rfl)) (ee_ixT (fun X _ _ p q => pe_ix ix_tup p q (fun _ _ => rfl)) (ee_var 3 rfl (Or.inl rfl) rfl) ee_int (by rfl)) rfl rfl ht31) ht41 (fun _ g40 => by obtain ⟨t32, ht32, g40⟩ := bindS g40; obtain ⟨t33, ht33, g40⟩ := bindS g40; obtain ⟨t34, ht34, g40⟩ := bindS g40; obtain ⟨t39, ht39, g40⟩ := bindS g40; obtain rfl := someS g40; exact (ew_or1 (et_not (et_val (fun _ _ => rfl) (ee_all T.all (by rfl) (ea_cons (fun _ _ _ p q => pa_cons p q) (ee_lcP [("one", 4)] (fun d : D => d) PyData.bool t33 _ sc_is_same_paper.nd (blkOk_by (N := nm_is_same_paper) (sc := defScope s_is_same_paper) (by decide +kernel)) (fun _ _ => rfl) (it_D (it_tup (fun X _ h => pi_tup h) (ee_is (ee_slT (ee_is (ee_var 2 rfl (Or.inl rfl) rfl) (by rw [tupD_some ht32])) (eo_some ee_int) eo_none) (by rw [tupD_some ht33])))) (fun _ => trivial) (by first | exact Nat.le_refl _ | (simp only [List.length_append, MD_len, M2_len, List.length_cons, List.length_nil, Sx.blk]; omega)) (fun x35 _ y37 ex g36 => by obtain ⟨t38, ht38, g36⟩ := bindS g36; obtain rfl := someS g36; exact ⟨_, _, by decide, (eg_name 4 sc_is_same_paper.nd rfl (Or.inl rfl) (.inr rfl)), _, (ee_call g_is_form_like (Nat.le_of_ble_eq_true rfl) (by rfl) (ea_cons (fun _ _ _ p q => pa_cons p q) (ee_var 4 rfl (Or.inl rfl) rfl) ea_nil) ⟨x35, rfl, rfl, t38, ht38, rfl⟩ (mu_dat mu_nil)), rfl⟩) ht39 (szO_some ht34).1) ea_nil) rfl))))))))) hc44 ?_
        obtain rfl := someS h
        exact ex_out (ss_ret ee_bool) rfl fin_dat
      · have h := iteF' hc44 h
        refine ex_ifF0 (et_w (ew_orO (et_neO (nobehind _ (by decide) (by decide)) (ee_ixT (fun X _ _ p q => pe_ix ix_tup p q (fun _ _ => rfl)) (ee_is (ee_var 2 rfl (Or.inl rfl) rfl) (by rw [tupD_some ht28])) ee_int ht29) (ee_gstr T.c_UNLIKE (by rfl)) rfl rfl ht30) ht43 (fun _ g42 => by obtain ⟨t31, ht31, g42⟩ := bindS g42; obtain ⟨t41, ht41, g42⟩ := bindS g42; obtain rfl := someS g42; exact (ew_orO (et_eqO (nobehind _ (by decide) (by decide)) (ee_ixT (fun X _ _ p q => pe_ix ix_tup p q (fun _ _ => rfl)) (ee_var 3 rfl (Or.inl rfl) rfl) ee_int (by rfl)) (ee_ixT (fun X _ _ p q => pe_ix ix_tup p q (fun _ _ => rfl)) (ee_var 3 rfl (Or.inl rfl) rfl) ee_int (by rfl)) rfl rfl ht31) ht41 (fun _ g40 => by obtain ⟨t32, ht32, g40⟩ := bindS g40; obtain ⟨t33, ht33, g40⟩ := bindS g40; obtain ⟨t34, ht34, g40⟩ := bindS g40; obtain ⟨t39, ht39, g40⟩ := bindS g40; obtain rfl := someS g40; exact (ew_or1 (et_not (et_val (fun _ _ => rfl) (ee_all T.all (by rfl) (ea_cons (fun _ _ _ p q => pa_cons p q) (ee_lcP [("one", 4)] (fun d : D => d) PyData.bool t33 _ sc_is_same_paper.nd (blkOk_by (N := nm_is_same_paper) (sc := defScope s_is_same_paper) (by decide +kernel)) (fun _ _ => rfl) (it_D (it_tup (fun X _ h => pi_tup h) (ee_is (ee_slT (ee_is (ee_var 2 rfl (Or.inl rfl) rfl) (by rw [tupD_some ht32])) (eo_some ee_int) eo_none) (by rw [tupD_some ht33])))) (fun _ => trivial) (by first | exact Nat.le_refl _ | (simp only [List.length_append, MD_len, M2_len, List.length_cons, List.length_nil, Sx.blk]; omega)) (fun x35 _ y37 ex g36 => by obtain ⟨t38, ht38, g36⟩ := bindS g36; obtain rfl := someS g36; exact ⟨_, _, by decide, (eg_name 4 sc_is_same_paper.nd rfl (Or.inl rfl) (.inr rfl)), _, (ee_call g_is_form_like (Nat.le_of_ble_eq_true rfl) (by rfl) (ea_cons (fun _ _ _ p q => pa_cons p q) (ee_var 4 rfl (Or.inl rfl) rfl) ea_nil) ⟨x35, rfl, rfl, t38, ht38, rfl⟩ (mu_dat mu_nil)), rfl⟩) ht39 (szO_some ht34).1) ea_nil) rfl))))))))) hc44 ?_
        obtain ⟨t45, ht45, h⟩ := bindS h
        obtain ⟨t46, ht46, h⟩ := bindS h
        obtain rfl := someS h
        exact ex_out (ss_ret (ee_eqO (nobehind _ (by decide) (by decide)) (ee_slT (ee_is (ee_var 2 rfl (Or.inl rfl) rfl) (by rw [tupD_some ht45])) (eo_some ee_int) eo_none) (ee_var 3 rfl (Or.inl rfl) rfl) rfl rfl ht46)) rfl fin_dat

def s__law_back : Stmt := topS 45
def nm__law_back : List Str := ["steps", "found", "a", "b", "c", "d", "s", "t", "side", "rows"]
theorem sc__law_back : FnScope nm__law_back ["steps"] (defScope s__law_back) := ⟨rfl, rfl, rfl, by decide +kernel, rfl, by decide +kernel, by decide +kernel⟩
def m__law_back (v_steps : (List (((Int × Int) × (Int × Int)) × (Int × Int)))) : Option ((List (((Int × Int) × (Int × Int)) × (Int × Int)))) := (forS (fun (x2 : (((Int × Int) × (Int × Int)) × (Int × Int))) (s1 : (List (((Int × Int) × (Int × Int)) × (Int × Int)))) => (mulO x2.1.1.1 x2.1.2.2).bind fun t5 => (mulO x2.1.1.2 x2.1.2.1).bind fun t6 => (mulO (t5 - t6) x2.1.2.2).bind fun t7 => (mulO (t5 - t6) x2.1.1.2).bind fun t8 => (mulO (t5 - t6) x2.1.2.1).bind fun t9 => (mulO (t5 - t6) x2.1.1.1).bind fun t10 => (appO s1 (((1, 0), (0, 1)), ((0 - x2.2.1), (0 - x2.2.2)))).bind fun t11 => (appO t11 (((t7, (0 - t8)), ((0 - t9), t10)), (0, 0))).bind fun t12 => some t12) ((v_steps).reverse : List (((Int × Int) × (Int × Int)) × (Int × Int))) []).bind fun s4 => some s4
def R__law_back : Rel := fun rs ms r ms2 => ∃ (v_steps : (List (((Int × Int) × (Int × Int)) × (Int × Int)))), rs = [.dat (e_lt2t2t2iit2iit2ii v_steps)] ∧ ms2 = ms ∧ ∃ v : (List (((Int × Int) × (Int × Int)) × (Int × Int))), m__law_back v_steps = some v ∧ r = .new (v.map e_t2t2t2iit2iit2ii)
theorem kn__law_back (T : Txt K mg) {f : Addr} {fd : FuncData} (Fu : Fun K "_law_back" "_law_back" s__law_back f fd) (hmf : mg "_law_back" = some (.ref f))  : Kn P w K mg base 1 "_law_back" R__law_back := by
  have hb := Fu.binds (ps := ["steps"]) fun _ _ _ _ _ _ us hl => match us, hl with | [_], _ => rfl
  refine kn_of (kk := 0) Fu sc__law_back hb hmf rfl (by decide) (by rintro rs ms0 r ms ⟨v_steps, rfl, rfl, v, h, rfl⟩; exact ⟨rfl, rfl⟩) ?_
  rintro rs ms0 r ms ⟨v_steps, rfl, rfl, v, h, rfl⟩
  show Ex _ _ [.dat (e_lt2t2t2iit2iit2ii v_steps), .un, .un, .un, .un, .un, .un, .un, .un, .un] ms (fun o => Fin ms o (.new (v.map e_t2t2t2iit2iit2ii)))
  unfold m__law_back at h
  show Ex _ _ [.dat (e_lt2t2t2iit2iit2ii v_steps), .un, .un, .un, .un, .un, .un, .un, .un, .un] _ _
  refine ex_cons (ss_open 1 sc__law_back.nd rfl (Or.inl rfl) (.inl rfl) (fun _ => rfl) (eeq_p (eep_lst eap_nil rfl (lnOk 0 rfl (by decide)))) (ms.length + 0) rfl) ?_
  show Ex _ _ [.dat (e_lt2t2t2iit2iit2ii v_steps), .mu (ms.length + 0), .un, .un, .un, .un, .un, .un, .un, .un] _ _
  obtain ⟨s4, hs4, h⟩ := bindS h
  refine ex_cons (ss_forS (s0 := []) e_t2t2t2iit2iit2ii _ _ (fun s1 : (List (((Int × Int) × (Int × Int)) × (Int × Int))) => [.dat (e_lt2t2t2iit2iit2ii v_steps), .mu (ms.length + 0), .un, .un, .un, .un, .un, .un, .un, .un]) (fun s1 : (List (((Int × Int) × (Int × Int)) × (Int × Int))) => (ms ++ [(s1.map e_t2t2t2iit2iit2ii)])) (ms.length + 1) (fun _ _ => rfl) (it_list (ds := ((v_steps).reverse : List (((Int × Int) × (Int × Int)) × (Int × Int))).map e_t2t2t2iit2iit2ii) (fun X _ h => pi_list h) (ee_is (r' := .new ((v_steps).reverse.map e_t2t2t2iit2iit2ii)) (ee_revL (ds := (v_steps : List (((Int × Int) × (Int × Int)) × (Int × Int))).map e_t2t2t2iit2iit2ii) (ee_var 0 rfl (Or.inl rfl) rfl) rfl) (by rw [← List.map_reverse])) rfl) (fun _ => rfl) (fun _ => lenA1) (.cons .dat (.cons (.mu (by first | omega | (simp only [List.length_append, MD_len, M2_len, List.length_cons, List.length_nil, Sx.blk]; omega))) (.cons .un (.cons .un (.cons .un (.cons .un (.cons .un (.cons .un (.cons .un (.cons .un .nil))))))))))
    (fun x2 _ s1 s3 h => ⟨_, _, (eg_tup (fun _ => rfl) (fun _ => rfl) (egs_cons (fun _ _ _ p q => pgs_cons p q) (eg_tup (fun _ => rfl) (fun _ => rfl) (egs_cons (fun _ _ _ p q => pgs_cons p q) (eg_tup (fun _ => rfl) (fun _ => rfl) (egs_cons (fun _ _ _ p q => pgs_cons p q) (eg_name 2 sc__law_back.nd rfl (Or.inl rfl) (.inl rfl)) (egs_cons (fun _ _ _ p q => pgs_cons p q) (eg_name 3 sc__law_back.nd rfl (Or.inl rfl) (.inl rfl)) egs_nil))) (egs_cons (fun _ _ _ p q => pgs_cons p q) (eg_tup (fun _ => rfl) (fun _ => rfl) (egs_cons (fun _ _ _ p q => pgs_cons p q) (eg_name 4 sc__law_back.nd rfl (Or.inl rfl) (.inl rfl)) (egs_cons (fun _ _ _ p q => pgs_cons p q) (eg_name 5 sc__law_back.nd rfl (Or.inl rfl) (.inl rfl)) egs_nil))) egs_nil))) (egs_cons (fun _ _ _ p q => pgs_cons p q) (eg_tup (fun _ => rfl) (fun _ => rfl) (egs_cons (fun _ _ _ p q => pgs_cons p q) (eg_name 6 sc__law_back.nd rfl (Or.inl rfl) (.inl rfl)) (egs_cons (fun _ _ _ p q => pgs_cons p q) (eg_name 7 sc__law_back.nd rfl (Or.inl rfl) (.inl rfl)) egs_nil))) egs_nil))), by
      show Ex _ _ [.dat (e_lt2t2t2iit2iit2ii v_steps), .mu (ms.length + 0), .dat (.int x2.1.1.1), .dat (.int x2.1.1.2), .dat (.int x2.1.2.1), .dat (.int x2.1.2.2), .dat (.int x2.2.1), .dat (.int x2.2.2), .un, .un] _ _
      obtain ⟨t5, ht5, h⟩ := bindS h
      obtain ⟨t6, ht6, h⟩ := bindS h
      refine ex_cons (ss_set 8 sc__law_back.nd rfl (Or.inl rfl) (.inl rfl) (fun _ => rfl) (ee_sub (ee_mulO (ee_var 2 rfl (Or.inl rfl) rfl) (ee_var 5 rfl (Or.inl rfl) rfl) ht5) (ee_mulO (ee_var 3 rfl (Or.inl rfl) rfl) (ee_var 4 rfl (Or.inl rfl) rfl) ht6)) rfl) ?_
      show Ex _ _ [.dat (e_lt2t2t2iit2iit2ii v_steps), .mu (ms.length + 0), .dat (.int x2.1.1.1), .dat (.int x2.1.1.2), .dat (.int x2.1.2.1), .dat (.int x2.1.2.2), .dat (.int x2.2.1), .dat (.int x2.2.2), .dat (.int (t5 - t6)), .un] _ _
      obtain ⟨t7, ht7, h⟩ := bindS h
      obtain ⟨t8, ht8, h⟩ := bindS h
      obtain ⟨t9, ht9, h⟩ := bindS h
      obtain ⟨t10, ht10, h⟩ := bindS h
      refine ex_cons (ss_set 9 sc__law_back.nd rfl (Or.inl rfl) (.inl rfl) (fun _ => rfl) (ee_tup (ea_cons (fun _ _ _ p q => pa_cons p q) (ee_tup (ea_cons (fun _ _ _ p q => pa_cons p q) (ee_mulO (ee_var 8 rfl (Or.inl rfl) rfl) (ee_var 5 rfl (Or.inl rfl) rfl) ht7) (ea_cons (fun _ _ _ p q => pa_cons p q) (ee_sub ee_int (ee_mulO (ee_var 8 rfl (Or.inl rfl) rfl) (ee_var 3 rfl (Or.inl rfl) rfl) ht8)) ea_nil)) rfl (lnOk 2 rfl (by decide))) (ea_cons (fun _ _ _ p q => pa_cons p q) (ee_tup (ea_cons (fun _ _ _ p q => pa_cons p q) (ee_sub ee_int (ee_mulO (ee_var 8 rfl (Or.inl rfl) rfl) (ee_var 4 rfl (Or.inl rfl) rfl) ht9)) (ea_cons (fun _ _ _ p q => pa_cons p q) (ee_mulO (ee_var 8 rfl (Or.inl rfl) rfl) (ee_var 2 rfl (Or.inl rfl) rfl) ht10) ea_nil)) rfl (lnOk 2 rfl (by decide))) ea_nil)) rfl (lnOk 2 rfl (by decide))) rfl) ?_
      show Ex _ _ [.dat (e_lt2t2t2iit2iit2ii v_steps), .mu (ms.length + 0), .dat (.int x2.1.1.1), .dat (.int x2.1.1.2), .dat (.int x2.1.2.1), .dat (.int x2.1.2.2), .dat (.int x2.2.1), .dat (.int x2.2.2), .dat (.int (t5 - t6)), .dat (e_t2t2iit2ii ((t7, (0 - t8)), ((0 - t9), t10)))] _ _
      obtain ⟨t11, ht11, h⟩ := bindS h
      refine ex_cons (ss_appP (j := 0) e_t2t2t2iit2iit2ii (fun X _ _ p q => pe_bm PySem.F.plainAttrs_list PySem.F.slot_list_append PySem.F.type_list_append mt_append p q) (fun _ => rfl) (ee_mu 1 rfl (Or.inl rfl) rfl) (ea_cons (fun _ _ _ p q => pa_cons p q) (ee_tup (ea_cons (fun _ _ _ p q => pa_cons p q) (ee_tup (ea_cons (fun _ _ _ p q => pa_cons p q) (ee_tup (ea_cons (fun _ _ _ p q => pa_cons p q) ee_int (ea_cons (fun _ _ _ p q => pa_cons p q) ee_int ea_nil)) rfl (lnOk 2 rfl (by decide))) (ea_cons (fun _ _ _ p q => pa_cons p q) (ee_tup (ea_cons (fun _ _ _ p q => pa_cons p q) ee_int (ea_cons (fun _ _ _ p q => pa_cons p q) ee_int ea_nil)) rfl (lnOk 2 rfl (by decide))) ea_nil)) rfl (lnOk 2 rfl (by decide))) (ea_cons (fun _ _ _ p q => pa_cons p q) (ee_tup (ea_cons (fun _ _ _ p q => pa_cons p q) (ee_sub ee_int (ee_var 6 rfl (Or.inl rfl) rfl)) (ea_cons (fun _ _ _ p q => pa_cons p q) (ee_sub ee_int (ee_var 7 rfl (Or.inl rfl) rfl)) ea_nil)) rfl (lnOk 2 rfl (by decide))) ea_nil)) rfl (lnOk 2 rfl (by decide))) ea_nil) rfl rfl ht11 (by first | exact Nat.le_refl _ | (simp only [List.length_append, MD_len, M2_len, List.length_cons, List.length_nil, Sx.blk]; omega)) rfl) ?_
      obtain ⟨t12, ht12, h⟩ := bindS h
      refine ex_cons (ss_appP (j := 0) e_t2t2t2iit2iit2ii (fun X _ _ p q => pe_bm PySem.F.plainAttrs_list PySem.F.slot_list_append PySem.F.type_list_append mt_append p q) (fun _ => rfl) (ee_mu 1 rfl (Or.inl rfl) rfl) (ea_cons (fun _ _ _ p q => pa_cons p q) (ee_tup (ea_cons (fun _ _ _ p q => pa_cons p q) (ee_var 9 rfl (Or.inl rfl) rfl) (ea_cons (fun _ _ _ p q => pa_cons p q) (ee_tup (ea_cons (fun _ _ _ p q => pa_cons p q) ee_int (ea_cons (fun _ _ _ p q => pa_cons p q) ee_int ea_nil)) rfl (lnOk 2 rfl (by decide))) ea_nil)) rfl (lnOk 2 rfl (by decide))) ea_nil) rfl rfl ht12 (by first | exact Nat.le_refl _ | (simp only [List.length_append, MD_len, M2_len, List.length_cons, List.length_nil, Sx.blk]; omega)) rfl) ?_
      obtain rfl := someS h
      exact ex_nil (turn_go (.cons .dat (.cons (.mu (by first | omega | (simp only [List.length_append, MD_len, M2_len, List.length_cons, List.length_nil, Sx.blk]; omega))) (.cons .un (.cons .un (.cons .un (.cons .un (.cons .un (.cons .un (.cons .un (.cons .un .nil)))))))))))
    ⟩) hs4) ?_
  obtain rfl := someS h
  exact ex_out (ss_ret (ee_mu 1 rfl (Or.inl rfl) rfl)) rfl (Fin.mu (j := (ms.length + 0)) (by rw [lkP]; rfl) (by omega))

def s__law_undone : Stmt := topS 47
def nm__law_undone : List Str := ["move", "a", "b", "c", "d", "shift", "found", "turn", "many"]
theorem sc__law_undone : FnScope nm__law_undone ["move"] (defScope s__law_undone) := ⟨rfl, rfl, rfl, by decide +kernel, rfl, by decide +kernel, by decide +kernel⟩
def m__law_undone (v_move : (((Int × Int) × (Int × Int)) × (Int × Int))) : Option ((List (((Int × Int) × (Int × Int)) × (Int × Int)))) := (rgO 400).bind fun t1 => (forS (fun (x3 : Int) (s2 : Int × Int × Int × Int × (List (((Int × Int) × (Int × Int)) × (Int × Int)))) => (if (decide (s2.2.2.1 ≠ 0)) = true then ((fdivO s2.1 s2.2.2.1).bind fun t7 => (mulO t7 s2.2.2.1).bind fun t8 => (mulO t7 s2.2.2.2.1).bind fun t9 => (m__law_step 0 (0 - t7) (0, 0)).bind fun t10 => (appO s2.2.2.2.2 t10).bind fun t11 => (m__law_step 2 0 (0, 0)).bind fun t12 => (appO t11 t12).bind fun t13 => some (s2.2.2.1, s2.2.2.2.1, (s2.1 - t8), (s2.2.1 - t9), t13)) else (some (s2.1, s2.2.1, s2.2.2.1, s2.2.2.2.1, s2.2.2.2.2)) : Option (Int × Int × Int × Int × (List (((Int × Int) × (Int × Int)) × (Int × Int))))).bind fun j6 => some (j6.1, j6.2.1, j6.2.2.1, j6.2.2.2.1, j6.2.2.2.2)) t1 (v_move.1.1.1, v_move.1.1.2, v_move.1.2.1, v_move.1.2.2, [])).bind fun s5 => (if (decide (s5.1 < 0)) = true then ((appO s5.2.2.2.2 ((((-1), 0), (0, 1)), (0, 0))).bind fun t15 => some ((0 - s5.2.1), t15)) else (some (s5.2.1, s5.2.2.2.2)) : Option (Int × (List (((Int × Int) × (Int × Int)) × (Int × Int))))).bind fun j14 => (if (decide (s5.2.2.2.1 < 0)) = true then ((appO j14.2 (((1, 0), (0, (-1))), (0, 0))).bind fun t17 => some t17) else (some j14.2) : Option ((List (((Int × Int) × (Int × Int)) × (Int × Int))))).bind fun j16 => (m__law_step 0 (0 - j14.1) (0, 0)).bind fun t18 => (catO (j16 : List (((Int × Int) × (Int × Int)) × (Int × Int))) [t18]).bind fun t19 => some t19
def R__law_undone : Rel := fun rs ms r ms2 => ∃ (v_move : (((Int × Int) × (Int × Int)) × (Int × Int))), rs = [.dat (e_t2t2t2iit2iit2ii v_move)] ∧ ms2 = ms ∧ ∃ v : (List (((Int × Int) × (Int × Int)) × (Int × Int))), m__law_undone v_move = some v ∧ r = .new (v.map e_t2t2t2iit2iit2ii)
theorem kn__law_undone (T : Txt K mg) {f : Addr} {fd : FuncData} (Fu : Fun K "_law_undone" "_law_undone" s__law_undone f fd) (hmf : mg "_law_undone" = some (.ref f)) (g__law_step : Kn P w K mg base 1 "_law_step" R__law_step) : Kn P w K mg base 2 "_law_undone" R__law_undone := by
  have hb := Fu.binds (ps := ["move"]) fun _ _ _ _ _ _ us hl => match us, hl with | [_], _ => rfl
  refine kn_of (kk := 1) Fu sc__law_undone hb hmf rfl (by decide) (by rintro rs ms0 r ms ⟨v_move, rfl, rfl, v, h, rfl⟩; exact ⟨rfl, rfl⟩) ?_
  rintro rs ms0 r ms ⟨v_move, rfl, rfl, v, h, rfl⟩
  show Ex _ _ [.dat (e_t2t2t2iit2iit2ii v_move), .un, .un, .un, .un, .un, .un, .un, .un] ms (fun o => Fin ms o (.new (v.map e_t2t2t2iit2iit2ii)))
  unfold m__law_undone at h
  show Ex _ _ [.dat (e_t2t2t2iit2iit2ii v_move), .un, .un, .un, .un, .un, .un, .un, .un] _ _
  refine ex_cons (ss_asgS (fun _ => rfl) (fun X hX => (sw_env (env' := env0 (defScope s__law_undone)) hX.sc _ _).trans rfl) (fun _ => rfl) (ee_var 0 rfl (Or.inl rfl) rfl) rfl (eg_tup (fun _ => rfl) (fun _ => rfl) (egs_cons (fun _ _ _ p q => pgs_cons p q) (eg_tup (fun _ => rfl) (fun _ => rfl) (egs_cons (fun _ _ _ p q => pgs_cons p q) (eg_tup (fun _ => rfl) (fun _ => rfl) (egs_cons (fun _ _ _ p q => pgs_cons p q) (eg_name 1 sc__law_undone.nd rfl (Or.inl rfl) (.inl rfl)) (egs_cons (fun _ _ _ p q => pgs_cons p q) (eg_name 2 sc__law_undone.nd rfl (Or.inl rfl) (.inl rfl)) egs_nil))) (egs_cons (fun _ _ _ p q => pgs_cons p q) (eg_tup (fun _ => rfl) (fun _ => rfl) (egs_cons (fun _ _ _ p q => pgs_cons p q) (eg_name 3 sc__law_undone.nd rfl (Or.inl rfl) (.inl rfl)) (egs_cons (fun _ _ _ p q => pgs_cons p q) (eg_name 4 sc__law_undone.nd rfl (Or.inl rfl) (.inl rfl)) egs_nil))) egs_nil))) (egs_cons (fun _ _ _ p q => pgs_cons p q) (eg_name 5 sc__law_undone.nd rfl (Or.inl rfl) (.inl rfl)) egs_nil)))) ?_
  show Ex _ _ [.dat (e_t2t2t2iit2iit2ii v_move), .dat (.int v_move.1.1.1), .dat (.int v_move.1.1.2), .dat (.int v_move.1.2.1), .dat (.int v_move.1.2.2), .dat (e_t2ii v_move.2), .un, .un, .un] _ _
  refine ex_cons (ss_open 6 sc__law_undone.nd rfl (Or.inl rfl) (.inl rfl) (fun _ => rfl) (eeq_p (eep_lst eap_nil rfl (lnOk 0 rfl (by decide)))) (ms.length + 0) rfl) ?_
  show Ex _ _ [.dat (e_t2t2t2iit2iit2ii v_move), .dat (.int v_move.1.1.1), .dat (.int v_move.1.1.2), .dat (.int v_move.1.2.1), .dat (.int v_move.1.2.2), .dat (e_t2ii v_move.2), .mu (ms.length + 0), .un, .un] _ _
  obtain ⟨t1, ht1, h⟩ := bindS h
  obtain ⟨s5, hs5, h⟩ := bindS h
  refine ex_cons (ss_forS (s0 := (v_move.1.1.1, v_move.1.1.2, v_move.1.2.1, v_move.1.2.2, [])) PyData.int _ _ (fun s2 : Int × Int × Int × Int × (List (((Int × Int) × (Int × Int)) × (Int × Int))) => [.dat (e_t2t2t2iit2iit2ii v_move), .dat (.int s2.1), .dat (.int s2.2.1), .dat (.int s2.2.2.1), .dat (.int s2.2.2.2.1), .dat (e_t2ii v_move.2), .mu (ms.length + 0), .un, .un]) (fun s2 : Int × Int × Int × Int × (List (((Int × Int) × (Int × Int)) × (Int × Int))) => (ms ++ [(s2.2.2.2.2.map e_t2t2t2iit2iit2ii)])) (ms.length + 1) (fun _ _ => rfl) (it_rngO T.range (by rfl) (fun X _ h1 h2 h3 => pi_range1 h2 h3 h1) (ea_cons (fun _ _ _ p q => pa_cons p q) ee_int ea_nil) ht1) (fun _ => trivial) (fun _ => lenA1) (.cons .dat (.cons .dat (.cons .dat (.cons .dat (.cons .dat (.cons .dat (.cons (.mu (by first | omega | (simp only [List.length_append, MD_len, M2_len, List.length_cons, List.length_nil, Sx.blk]; omega))) (.cons .un (.cons .un .nil)))))))))
    (fun x3 _ s2 s4 h => ⟨_, _, (eg_name 7 sc__law_undone.nd rfl (Or.inl rfl) (.inl rfl)), by
      show Ex _ _ [.dat (e_t2t2t2iit2iit2ii v_move), .dat (.int s2.1), .dat (.int s2.2.1), .dat (.int s2.2.2.1), .dat (.int s2.2.2.2.1), .dat (e_t2ii v_move.2), .mu (ms.length + 0), .dat (.int x3), .un] _ _
      obtain ⟨j6, hj6, h⟩ := bindS h
      refine ex_cons (ss_join (ρ2 := [.dat (e_t2t2t2iit2iit2ii v_move), .dat (.int j6.1), .dat (.int j6.2.1), .dat (.int j6.2.2.1), .dat (.int j6.2.2.2.1), .dat (e_t2ii v_move.2), .mu (ms.length + 0), .dat (.int x3), .un]) (ms2 := (ms ++ [(j6.2.2.2.2.map e_t2t2t2iit2iit2ii)])) (et_neI (nobehind _ (by decide) (by decide)) (ee_var 3 rfl (Or.inl rfl) rfl) ee_int) rfl (by first | rfl | simp only [List.length_append, MD_len, M2_len, List.length_cons, List.length_nil, Sx.blk])
        (fun z => by
          have h := iteT' z hj6
          show Ex _ _ [.dat (e_t2t2t2iit2iit2ii v_move), .dat (.int s2.1), .dat (.int s2.2.1), .dat (.int s2.2.2.1), .dat (.int s2.2.2.2.1), .dat (e_t2ii v_move.2), .mu (ms.length + 0), .dat (.int x3), .un] _ _
          obtain ⟨t7, ht7, h⟩ := bindS h
          refine ex_cons (ss_set 8 sc__law_undone.nd rfl (Or.inl rfl) (.inl rfl) (fun _ => rfl) (ee_fdivO (ee_var 1 rfl (Or.inl rfl) rfl) (ee_var 3 rfl (Or.inl rfl) rfl) ht7) rfl) ?_
          show Ex _ _ [.dat (e_t2t2t2iit2iit2ii v_move), .dat (.int s2.1), .dat (.int s2.2.1), .dat (.int s2.2.2.1), .dat (.int s2.2.2.2.1), .dat (e_t2ii v_move.2), .mu (ms.length + 0), .dat (.int x3), .dat (.int t7)] _ _
          obtain ⟨t8, ht8, h⟩ := bindS h
          obtain ⟨t9, ht9, h⟩ := bindS h
          refine ex_cons (ss_par 1 2 sc__law_undone.nd rfl rfl (by decide) rfl rfl (fun X hX => (sw_env (env' := env0 (defScope s__law_undone)) hX.sc _ _).trans rfl) (ea_cons (fun _ _ _ p q => pa_cons p q) (ee_sub (ee_var 1 rfl (Or.inl rfl) rfl) (ee_mulO (ee_var 8 rfl (Or.inl rfl) rfl) (ee_var 3 rfl (Or.inl rfl) rfl) ht8)) (ea_cons (fun _ _ _ p q => pa_cons p q) (ee_sub (ee_var 2 rfl (Or.inl rfl) rfl) (ee_mulO (ee_var 8 rfl (Or.inl rfl) rfl) (ee_var 4 rfl (Or.inl rfl) rfl) ht9)) ea_nil)) rfl rfl) ?_
          show Ex _ _ [.dat (e_t2t2t2iit2iit2ii v_move), .dat (.int (s2.1 - t8)), .dat (.int (s2.2.1 - t9)), .dat (.int s2.2.2.1), .dat (.int s2.2.2.2.1), .dat (e_t2ii v_move.2), .mu (ms.length + 0), .dat (.int x3), .dat (.int t7)] _ _
          obtain ⟨t10, ht10, h⟩ := bindS h
          obtain ⟨t11, ht11, h⟩ := bindS h
          refine ex_cons (ss_appP (j := 0) e_t2t2t2iit2iit2ii (fun X _ _ p q => pe_bm PySem.F.plainAttrs_list PySem.F.slot_list_append PySem.F.type_list_append mt_append p q) (fun _ => rfl) (ee_mu 6 rfl (Or.inl rfl) rfl) (ea_cons (fun _ _ _ p q => pa_cons p q) (ee_call g__law_step (Nat.le_of_ble_eq_true rfl) (by rfl) (ea_cons (fun _ _ _ p q => pa_cons p q) ee_int (ea_cons (fun _ _ _ p q => pa_cons p q) (ee_sub ee_int (ee_var 8 rfl (Or.inl rfl) rfl)) (ea_cons (fun _ _ _ p q => pa_cons p q) (ee_tup (ea_cons (fun _ _ _ p q => pa_cons p q) ee_int (ea_cons (fun _ _ _ p q => pa_cons p q) ee_int ea_nil)) rfl (lnOk 2 rfl (by decide))) ea_nil))) ⟨0, (0 - t7), (0, 0), rfl, rfl, t10, ht10, rfl⟩ (mu_dat (mu_dat (mu_dat mu_nil)))) ea_nil) rfl rfl ht11 (by first | exact Nat.le_refl _ | (simp only [List.length_append, MD_len, M2_len, List.length_cons, List.length_nil, Sx.blk]; omega)) rfl) ?_
          refine ex_cons (ss_asgS (fun _ => rfl) (fun X hX => (sw_env (env' := env0 (defScope s__law_undone)) hX.sc _ _).trans rfl) (fun _ => rfl) (ee_tup (ea_cons (fun _ _ _ p q => pa_cons p q) (ee_var 3 rfl (Or.inl rfl) rfl) (ea_cons (fun _ _ _ p q => pa_cons p q) (ee_var 4 rfl (Or.inl rfl) rfl) (ea_cons (fun _ _ _ p q => pa_cons p q) (ee_var 1 rfl (Or.inl rfl) rfl) (ea_cons (fun _ _ _ p q => pa_cons p q) (ee_var 2 rfl (Or.inl rfl) rfl) ea_nil)))) rfl (lnOk 4 rfl (by decide))) rfl (eg_tup (fun _ => rfl) (fun _ => rfl) (egs_cons (fun _ _ _ p q => pgs_cons p q) (eg_name 1 sc__law_undone.nd rfl (Or.inl rfl) (.inl rfl)) (egs_cons (fun _ _ _ p q => pgs_cons p q) (eg_name 2 sc__law_undone.nd rfl (Or.inl rfl) (.inl rfl)) (egs_cons (fun _ _ _ p q => pgs_cons p q) (eg_name 3 sc__law_undone.nd rfl (Or.inl rfl) (.inl rfl)) (egs_cons (fun _ _ _ p q => pgs_cons p q) (eg_name 4 sc__law_undone.nd rfl (Or.inl rfl) (.inl rfl)) egs_nil)))))) ?_
          show Ex _ _ [.dat (e_t2t2t2iit2iit2ii v_move), .dat (.int s2.2.2.1), .dat (.int s2.2.2.2.1), .dat (.int (s2.1 - t8)), .dat (.int (s2.2.1 - t9)), .dat (e_t2ii v_move.2), .mu (ms.length + 0), .dat (.int x3), .dat (.int t7)] _ _
          obtain ⟨t12, ht12, h⟩ := bindS h
          obtain ⟨t13, ht13, h⟩ := bindS h
          refine ex_cons (ss_appP (j := 0) e_t2t2t2iit2iit2ii (fun X _ _ p q => pe_bm PySem.F.plainAttrs_list PySem.F.slot_list_append PySem.F.type_list_append mt_append p q) (fun _ => rfl) (ee_mu 6 rfl (Or.inl rfl) rfl) (ea_cons (fun _ _ _ p q => pa_cons p q) (ee_call g__law_step (Nat.le_of_ble_eq_true rfl) (by rfl) (ea_cons (fun _ _ _ p q => pa_cons p q) ee_int (ea_cons (fun _ _ _ p q => pa_cons p q) ee_int (ea_cons (fun _ _ _ p q => pa_cons p q) (ee_tup (ea_cons (fun _ _ _ p q => pa_cons p q) ee_int (ea_cons (fun _ _ _ p q => pa_cons p q) ee_int ea_nil)) rfl (lnOk 2 rfl (by decide))) ea_nil))) ⟨2, 0, (0, 0), rfl, rfl, t12, ht12, rfl⟩ (mu_dat (mu_dat (mu_dat mu_nil)))) ea_nil) rfl rfl ht13 (by first | exact Nat.le_refl _ | (simp only [List.length_append, MD_len, M2_len, List.length_cons, List.length_nil, Sx.blk]; omega)) rfl) ?_
          obtain rfl := someS h
          exact ex_nil (thru_nx (.cons .dat (.cons .dat (.cons .dat (.cons .dat (.cons .dat (.cons .dat (.cons (.mu (by first | omega | (simp only [List.length_append, MD_len, M2_len, List.length_cons, List.length_nil, Sx.blk]; omega))) (.cons .dat (.cons .un .nil))))))))))
        )
        (fun z => by
          have h := iteF' z hj6
          obtain rfl := someS h
          exact ex_nil (thru_nx (.cons .dat (.cons .dat (.cons .dat (.cons .dat (.cons .dat (.cons .dat (.cons (.mu (by first | omega | (simp only [List.length_append, MD_len, M2_len, List.length_cons, List.length_nil, Sx.blk]; omega))) (.cons .dat (.cons .un .nil))))))))))
        )) ?_
      obtain rfl := someS h
      exact ex_nil (turn_go (.cons .dat (.cons .dat (.cons .dat (.cons .dat (.cons .dat (.cons .dat (.cons (.mu (by first | omega | (simp only [List.length_append, MD_len, M2_len, List.length_cons, List.length_nil, Sx.blk]; omega))) (.cons .un (.cons .un .nil))))))))))
    ⟩) hs5) ?_
  show Ex _ _ [.dat (e_t2t2t2iit2iit2ii v_move), .dat (.int s5.1), .dat (.int s5.2.1), .dat (.int s5.2.2.1), .dat (.int s5.2.2.2.1), .dat (e_t2ii v_move.2), .mu (ms.length + 0), .un, .un] _ _
  obtain ⟨j14, hj14, h⟩ := bindS h
  refine ex_cons (ss_join (ρ2 := [.dat (e_t2t2t2iit2iit2ii v_move), .un, .dat (.int j14.1), .dat (.int s5.2.2.1), .dat (.int s5.2.2.2.1), .dat (e_t2ii v_move.2), .mu (ms.length + 0), .un, .un]) (ms2 := (ms ++ [(j14.2.map e_t2t2t2iit2iit2ii)])) (et_lt (nobehind _ (by decide) (by decide)) (ee_var 1 rfl (Or.inl rfl) rfl) ee_int) rfl (by first | rfl | simp only [List.length_append, MD_len, M2_len, List.length_cons, List.length_nil, Sx.blk])
    (fun z => by
      have h := iteT' z hj14
      show Ex _ _ [.dat (e_t2t2t2iit2iit2ii v_move), .dat (.int s5.1), .dat (.int s5.2.1), .dat (.int s5.2.2.1), .dat (.int s5.2.2.2.1), .dat (e_t2ii v_move.2), .mu (ms.length + 0), .un, .un] _ _
      refine ex_cons (ss_par 1 2 sc__law_undone.nd rfl rfl (by decide) rfl rfl (fun X hX => (sw_env (env' := env0 (defScope s__law_undone)) hX.sc _ _).trans rfl) (ea_cons (fun _ _ _ p q => pa_cons p q) (ee_sub ee_int (ee_var 1 rfl (Or.inl rfl) rfl)) (ea_cons (fun _ _ _ p q => pa_cons p q) (ee_sub ee_int (ee_var 2 rfl (Or.inl rfl) rfl)) ea_nil)) rfl rfl) ?_
      show Ex _ _ [.dat (e_t2t2t2iit2iit2ii v_move), .dat (.int (0 - s5.1)), .dat (.int (0 - s5.2.1)), .dat (.int s5.2.2.1), .dat (.int s5.2.2.2.1), .dat (e_t2ii v_move.2), .mu (ms.length + 0), .un, .un] _ _
      obtain ⟨t15, ht15, h⟩ := bindS h
      refine ex_cons (ss_appP (j := 0) e_t2t2t2iit2iit2ii (fun X _ _ p q => pe_bm PySem.F.plainAttrs_list PySem.F.slot_list_append PySem.F.type_list_append mt_append p q) (fun _ => rfl) (ee_mu 6 rfl (Or.inl rfl) rfl) (ea_cons (fun _ _ _ p q => pa_cons p q) (ee_tup (ea_cons (fun _ _ _ p q => pa_cons p q) (ee_tup (ea_cons (fun _ _ _ p q => pa_cons p q) (ee_tup (ea_cons (fun _ _ _ p q => pa_cons p q) (ee_neg ee_int) (ea_cons (fun _ _ _ p q => pa_cons p q) ee_int ea_nil)) rfl (lnOk 2 rfl (by decide))) (ea_cons (fun _ _ _ p q => pa_cons p q) (ee_tup (ea_cons (fun _ _ _ p q => pa_cons p q) ee_int (ea_cons (fun _ _ _ p q => pa_cons p q) ee_int ea_nil)) rfl (lnOk 2 rfl (by decide))) ea_nil)) rfl (lnOk 2 rfl (by decide))) (ea_cons (fun _ _ _ p q => pa_cons p q) (ee_tup (ea_cons (fun _ _ _ p q => pa_cons p q) ee_int (ea_cons (fun _ _ _ p q => pa_cons p q) ee_int ea_nil)) rfl (lnOk 2 rfl (by decide))) ea_nil)) rfl (lnOk 2 rfl (by decide))) ea_nil) rfl rfl ht15 (by first | exact Nat.le_refl _ | (simp only [List.length_append, MD_len, M2_len, List.length_cons, List.length_nil, Sx.blk]; omega)) rfl) ?_
      obtain rfl := someS h
      exact ex_nil (thru_nx (.cons .dat (.cons .un (.cons .dat (.cons .dat (.cons .dat (.cons .dat (.cons (.mu (by first | omega | (simp only [List.length_append, MD_len, M2_len, List.length_cons, List.length_nil, Sx.blk]; omega))) (.cons .un (.cons .un .nil))))))))))
    )
    (fun z => by
      have h := iteF' z hj14
      obtain rfl := someS h
      exact ex_nil (thru_nx (.cons .dat (.cons .un (.cons .dat (.cons .dat (.cons .dat (.cons .dat (.cons (.mu (by first | omega | (simp only [List.length_append, MD_len, M2_len, List.length_cons, List.length_nil, Sx.blk]; omega))) (.cons .un (.cons .un .nil))))))))))
    )) ?_
  show Ex _ _ [.dat (e_t2t2t2iit2iit2ii v_move), .un, .dat (.int j14.1), .dat (.int s5.2.2.1), .dat (.int s5.2.2.2.1), .dat (e_t2ii v_move.2), .mu (ms.length + 0), .un, .un] _ _
  obtain ⟨j16, hj16, h⟩ := bindS h
  refine ex_cons (ss_join (ρ2 := [.dat (e_t2t2t2iit2iit2ii v_move), .un, .dat (.int j14.1), .un, .un, .dat (e_t2ii v_move.2), .mu (ms.length + 0), .un, .un]) (ms2 := (ms ++ [(j16.map e_t2t2t2iit2iit2ii)])) (et_lt (nobehind _ (by decide) (by decide)) (ee_var 4 rfl (Or.inl rfl) rfl) ee_int) rfl (by first | rfl | simp only [List.length_append, MD_len, M2_len, List.length_cons, List.length_nil, Sx.blk])
    (fun z => by
      have h := iteT' z hj16
      show Ex _ _ [.dat (e_t2t2t2iit2iit2ii v_move), .un, .dat (.int j14.1), .dat (.int s5.2.2.1), .dat (.int s5.2.2.2.1), .dat (e_t2ii v_move.2), .mu (ms.length + 0), .un, .un] _ _
      refine ex_cons (ss_par 3 4 sc__law_undone.nd rfl rfl (by decide) rfl rfl (fun X hX => (sw_env (env' := env0 (defScope s__law_undone)) hX.sc _ _).trans rfl) (ea_cons (fun _ _ _ p q => pa_cons p q) (ee_sub ee_int (ee_var 3 rfl (Or.inl rfl) rfl)) (ea_cons (fun _ _ _ p q => pa_cons p q) (ee_sub ee_int (ee_var 4 rfl (Or.inl rfl) rfl)) ea_nil)) rfl rfl) ?_
      show Ex _ _ [.dat (e_t2t2t2iit2iit2ii v_move), .un, .dat (.int j14.1), .dat (.int (0 - s5.2.2.1)), .dat (.int (0 - s5.2.2.2.1)), .dat (e_t2ii v_move.2), .mu (ms.length + 0), .un, .un] _ _
      obtain ⟨t17, ht17, h⟩ := bindS h
      refine ex_cons (ss_appP (j := 0) e_t2t2t2iit2iit2ii (fun X _ _ p q => pe_bm PySem.F.plainAttrs_list PySem.F.slot_list_append PySem.F.type_list_append mt_append p q) (fun _ => rfl) (ee_mu 6 rfl (Or.inl rfl) rfl) (ea_cons (fun _ _ _ p q => pa_cons p q) (ee_tup (ea_cons (fun _ _ _ p q => pa_cons p q) (ee_tup (ea_cons (fun _ _ _ p q => pa_cons p q) (ee_tup (ea_cons (fun _ _ _ p q => pa_cons p q) ee_int (ea_cons (fun _ _ _ p q => pa_cons p q) ee_int ea_nil)) rfl (lnOk 2 rfl (by decide))) (ea_cons (fun _ _ _ p q => pa_cons p q) (ee_tup (ea_cons (fun _ _ _ p q => pa_cons p q) ee_int (ea_cons (fun _ _ _ p q => pa_cons p q) (ee_neg ee_int) ea_nil)) rfl (lnOk 2 rfl (by decide))) ea_nil)) rfl (lnOk 2 rfl (by decide))) (ea_cons (fun _ _ _ p q => pa_cons p q) (ee_tup (ea_cons (fun _ _ _ p q => pa_cons p q) ee_int (ea_cons (fun _ _ _ p q => pa_cons p q) ee_int ea_nil)) rfl (lnOk 2 rfl (by decide))) ea_nil)) rfl (lnOk 2 rfl (by decide))) ea_nil) rfl rfl ht17 (by first | exact Nat.le_refl _ | (simp only [List.length_append, MD_len, M2_len, List.length_cons, List.length_nil, Sx.blk]; omega)) rfl) ?_
      obtain rfl := someS h
      exact ex_nil (thru_nx (.cons .dat (.cons .un (.cons .dat (.cons .un (.cons .un (.cons .dat (.cons (.mu (by first | omega | (simp only [List.length_append, MD_len, M2_len, List.length_cons, List.length_nil, Sx.blk]; omega))) (.cons .un (.cons .un .nil))))))))))
    )
    (fun z => by
      have h := iteF' z hj16
      obtain rfl := someS h
      exact ex_nil (thru_nx (.cons .dat (.cons .un (.cons .dat (.cons .un (.cons .un (.cons .dat (.cons (.mu (by first | omega | (simp only [List.length_append, MD_len, M2_len, List.length_cons, List.length_nil, Sx.blk]; omega))) (.cons .un (.cons .un .nil))))))))))
    )) ?_
  show Ex _ _ [.dat (e_t2t2t2iit2iit2ii v_move), .un, .dat (.int j14.1), .un, .un, .dat (e_t2ii v_move.2), .mu (ms.length + 0), .un, .un] _ _
  obtain ⟨t18, ht18, h⟩ := bindS h
  obtain ⟨t19, ht19, h⟩ := bindS h
  obtain rfl := someS h
  exact ex_out (ss_ret (ee_cat (xs := j16) (ys := [t18]) e_t2t2t2iit2iit2ii (ee_mu 6 rfl (Or.inl rfl) rfl) (ee_lst (ea_cons (fun _ _ _ p q => pa_cons p q) (ee_call g__law_step (Nat.le_of_ble_eq_true rfl) (by rfl) (ea_cons (fun _ _ _ p q => pa_cons p q) ee_int (ea_cons (fun _ _ _ p q => pa_cons p q) (ee_sub ee_int (ee_var 2 rfl (Or.inl rfl) rfl)) (ea_cons (fun _ _ _ p q => pa_cons p q) (ee_tup (ea_cons (fun _ _ _ p q => pa_cons p q) ee_int (ea_cons (fun _ _ _ p q => pa_cons p q) ee_int ea_nil)) rfl (lnOk 2 rfl (by decide))) ea_nil))) ⟨0, (0 - j14.1), (0, 0), rfl, rfl, t18, ht18, rfl⟩ (mu_dat (mu_dat (mu_dat mu_nil)))) ea_nil) rfl (lnOk 1 rfl (by decide))) (by rw [lresMu, lkP]; rfl) rfl ht19)) rfl .new

def s_back_rows : Stmt := topS 21
def nm_back_rows : List Str := ["rows", "a", "b", "c", "d", "side"]
theorem sc_back_rows : FnScope nm_back_rows ["rows"] (defScope s_back_rows) := ⟨rfl, rfl, rfl, by decide +kernel, rfl, by decide +kernel, by decide +kernel⟩
def m_back_rows (v_rows : ((Int × Int) × (Int × Int))) : Option (((Int × Int) × (Int × Int))) := (mulO v_rows.1.1 v_rows.2.2).bind fun t1 => (mulO v_rows.1.2 v_rows.2.1).bind fun t2 => (mulO (t1 - t2) v_rows.2.2).bind fun t3 => (mulO (-(t1 - t2)) v_rows.1.2).bind fun t4 => (mulO (-(t1 - t2)) v_rows.2.1).bind fun t5 => (mulO (t1 - t2) v_rows.1.1).bind fun t6 => some ((t3, t4), (t5, t6))
def R_back_rows : Rel := fun rs ms r ms2 => ∃ (v_rows : ((Int × Int) × (Int × Int))), rs = [.dat (e_t2t2iit2ii v_rows)] ∧ ms2 = ms ∧ ∃ v : ((Int × Int) × (Int × Int)), m_back_rows v_rows = some v ∧ r = .dat (e_t2t2iit2ii v)
theorem kn_back_rows (T : Txt K mg) {f : Addr} {fd : FuncData} (Fu : Fun K "back_rows" "back_rows" s_back_rows f fd) (hmf : mg "back_rows" = some (.ref f))  : Kn P w K mg base 1 "back_rows" R_back_rows := by
  have hb := Fu.binds (ps := ["rows"]) fun _ _ _ _ _ _ us hl => match us, hl with | [_], _ => rfl
  refine kn_of (kk := 0) Fu sc_back_rows hb hmf rfl (by decide) (by rintro rs ms0 r ms ⟨v_rows, rfl, rfl, v, h, rfl⟩; exact ⟨rfl, rfl⟩) ?_
  rintro rs ms0 r ms ⟨v_rows, rfl, rfl, v, h, rfl⟩
  show Ex _ _ [.dat (e_t2t2iit2ii v_rows), .un, .un, .un, .un, .un] ms (fun o => Fin ms o (.dat (e_t2t2iit2ii v)))
  unfold m_back_rows at h
  show Ex _ _ [.dat (e_t2t2iit2ii v_rows), .un, .un, .un, .un, .un] _ _
  refine ex_cons (ss_asgS (fun _ => rfl) (fun X hX => (sw_env (env' := env0 (defScope s_back_rows)) hX.sc _ _).trans rfl) (fun _ => rfl) (ee_var 0 rfl (Or.inl rfl) rfl) rfl (eg_tup (fun _ => rfl) (fun _ => rfl) (egs_cons (fun _ _ _ p q => pgs_cons p q) (eg_tup (fun _ => rfl) (fun _ => rfl) (egs_cons (fun _ _ _ p q => pgs_cons p q) (eg_name 1 sc_back_rows.nd rfl (Or.inl rfl) (.inl rfl)) (egs_cons (fun _ _ _ p q => pgs_cons p q) (eg_name 2 sc_back_rows.nd rfl (Or.inl rfl) (.inl rfl)) egs_nil))) (egs_cons (fun _ _ _ p q => pgs_cons p q) (eg_tup (fun _ => rfl) (fun _ => rfl) (egs_cons (fun _ _ _ p q => pgs_cons p q) (eg_name 3 sc_back_rows.nd rfl (Or.inl rfl) (.inl rfl)) (egs_cons (fun _ _ _ p q => pgs_cons p q) (eg_name 4 sc_back_rows.nd rfl (Or.inl rfl) (.inl rfl)) egs_nil))) egs_nil)))) ?_
  show Ex _ _ [.dat (e_t2t2iit2ii v_rows), .dat (.int v_rows.1.1), .dat (.int v_rows.1.2), .dat (.int v_rows.2.1), .dat (.int v_rows.2.2), .un] _ _
  obtain ⟨t1, ht1, h⟩ := bindS h
  obtain ⟨t2, ht2, h⟩ := bindS h
  refine ex_cons (ss_set 5 sc_back_rows.nd rfl (Or.inl rfl) (.inl rfl) (fun _ => rfl) (ee_sub (ee_mulO (ee_var 1 rfl (Or.inl rfl) rfl) (ee_var 4 rfl (Or.inl rfl) rfl) ht1) (ee_mulO (ee_var 2 rfl (Or.inl rfl) rfl) (ee_var 3 rfl (Or.inl rfl) rfl) ht2)) rfl) ?_
  show Ex _ _ [.dat (e_t2t2iit2ii v_rows), .dat (.int v_rows.1.1), .dat (.int v_rows.1.2), .dat (.int v_rows.2.1), .dat (.int v_rows.2.2), .dat (.int (t1 - t2))] _ _
  obtain ⟨t3, ht3, h⟩ := bindS h
  obtain ⟨t4, ht4, h⟩ := bindS h
  obtain ⟨t5, ht5, h⟩ := bindS h
  obtain ⟨t6, ht6, h⟩ := bindS h
  obtain rfl := someS h
  exact ex_out (ss_ret (ee_tup (ea_cons (fun _ _ _ p q => pa_cons p q) (ee_tup (ea_cons (fun _ _ _ p q => pa_cons p q) (ee_mulO (ee_var 5 rfl (Or.inl rfl) rfl) (ee_var 4 rfl (Or.inl rfl) rfl) ht3) (ea_cons (fun _ _ _ p q => pa_cons p q) (ee_mulO (ee_neg (ee_var 5 rfl (Or.inl rfl) rfl)) (ee_var 2 rfl (Or.inl rfl) rfl) ht4) ea_nil)) rfl (lnOk 2 rfl (by decide))) (ea_cons (fun _ _ _ p q => pa_cons p q) (ee_tup (ea_cons (fun _ _ _ p q => pa_cons p q) (ee_mulO (ee_neg (ee_var 5 rfl (Or.inl rfl) rfl)) (ee_var 3 rfl (Or.inl rfl) rfl) ht5) (ea_cons (fun _ _ _ p q => pa_cons p q) (ee_mulO (ee_var 5 rfl (Or.inl rfl) rfl) (ee_var 1 rfl (Or.inl rfl) rfl) ht6) ea_nil)) rfl (lnOk 2 rfl (by decide))) ea_nil)) rfl (lnOk 2 rfl (by decide)))) rfl fin_dat

def s_move_in : Stmt := topS 22
def nm_move_in : List Str := ["points", "far_points", "lead", "far_lead", "rows", "x", "y", "one"]
theorem sc_move_in : FnScope nm_move_in ["points", "far_points"] (defScope s_move_in) := ⟨rfl, rfl, rfl, by decide +kernel, rfl, by decide +kernel, by decide +kernel⟩
def m_move_in (v_points : (List (Int × Int × Int))) (v_far_points : (List (Int × Int × Int))) : Option ((((Int × Int) × (Int × Int)) × (Int × Int))) := (m_form_in v_points).bind fun t1 => (m_form_in v_far_points).bind fun t2 => (u_uui_t2t2iit2ii t1.2).bind fun t3 => (u_uui_t2t2iit2ii t2.2).bind fun t4 => (m_back_rows t4).bind fun t5 => (m_led_rows t3 t5).bind fun t6 => (ixO (v_points : List (Int × Int × Int)) 0).bind fun t7 => (m_led_in (t6, (0, 0)) t7).bind fun t8 => (ixO (v_far_points : List (Int × Int × Int)) 0).bind fun t9 => (ixO (v_far_points : List (Int × Int × Int)) 0).bind fun t10 => some (t6, ((t9.1 - t8.1), (t10.2.1 - t8.2.1)))
def R_move_in : Rel := fun rs ms r ms2 => ∃ (v_points : (List (Int × Int × Int))) (v_far_points : (List (Int × Int × Int))), rs = [.dat (e_ut3iii v_points), .dat (e_ut3iii v_far_points)] ∧ ms2 = ms ∧ ∃ v : (((Int × Int) × (Int × Int)) × (Int × Int)), m_move_in v_points v_far_points = some v ∧ r = .dat (e_t2t2t2iit2iit2ii v)
theorem kn_move_in (T : Txt K mg) {f : Addr} {fd : FuncData} (Fu : Fun K "move_in" "move_in" s_move_in f fd) (hmf : mg "move_in" = some (.ref f)) (g_form_in : Kn P w K mg base 3 "form_in" R_form_in) (g_led_rows : Kn P w K mg base 1 "led_rows" R_led_rows) (g_back_rows : Kn P w K mg base 1 "back_rows" R_back_rows) (g_led_in : Kn P w K mg base 1 "led_in" R_led_in) : Kn P w K mg base 4 "move_in" R_move_in := by
  have hb := Fu.binds (ps := ["points", "far_points"]) fun _ _ _ _ _ _ us hl => match us, hl with | [_, _], _ => rfl
  refine kn_of (kk := 3) Fu sc_move_in hb hmf rfl (by decide) (by rintro rs ms0 r ms ⟨v_points, v_far_points, rfl, rfl, v, h, rfl⟩; exact ⟨rfl, rfl⟩) ?_
  rintro rs ms0 r ms ⟨v_points, v_far_points, rfl, rfl, v, h, rfl⟩
  show Ex _ _ [.dat (e_ut3iii v_points), .dat (e_ut3iii v_far_points), .un, .un, .un, .un, .un, .un] ms (fun o => Fin ms o (.dat (e_t2t2t2iit2iit2ii v)))
  unfold m_move_in at h
  show Ex _ _ [.dat (e_ut3iii v_points), .dat (e_ut3iii v_far_points), .un, .un, .un, .un, .un, .un] _ _
  obtain ⟨t1, ht1, h⟩ := bindS h
  obtain ⟨t2, ht2, h⟩ := bindS h
  refine ex_cons (ss_par 2 3 sc_move_in.nd rfl rfl (by decide) rfl rfl (fun X hX => (sw_env (env' := env0 (defScope s_move_in)) hX.sc _ _).trans rfl) (ea_cons (fun _ _ _ p q => pa_cons p q) (ee_ixT (fun X _ _ p q => pe_ix ix_tup p q (fun _ _ => rfl)) (ee_call g_form_in (Nat.le_of_ble_eq_true rfl) (by rfl) (ea_cons (fun _ _ _ p q => pa_cons p q) (ee_var 0 rfl (Or.inl rfl) rfl) ea_nil) ⟨v_points, rfl, rfl, t1, ht1, rfl⟩ (mu_dat mu_nil)) ee_int (by rfl)) (ea_cons (fun _ _ _ p q => pa_cons p q) (ee_ixT (fun X _ _ p q => pe_ix ix_tup p q (fun _ _ => rfl)) (ee_call g_form_in (Nat.le_of_ble_eq_true rfl) (by rfl) (ea_cons (fun _ _ _ p q => pa_cons p q) (ee_var 1 rfl (Or.inl rfl) rfl) ea_nil) ⟨v_far_points, rfl, rfl, t2, ht2, rfl⟩ (mu_dat mu_nil)) ee_int (by rfl)) ea_nil)) rfl rfl) ?_
  show Ex _ _ [.dat (e_ut3iii v_points), .dat (e_ut3iii v_far_points), .dat (e_uui t1.2), .dat (e_uui t2.2), .un, .un, .un, .un] _ _
  obtain ⟨t3, ht3, h⟩ := bindS h
  obtain ⟨t4, ht4, h⟩ := bindS h
  obtain ⟨t5, ht5, h⟩ := bindS h
  obtain ⟨t6, ht6, h⟩ := bindS h
  refine ex_cons (ss_set 4 sc_move_in.nd rfl (Or.inl rfl) (.inl rfl) (fun _ => rfl) (ee_call g_led_rows (Nat.le_of_ble_eq_true rfl) (by rfl) (ea_cons (fun _ _ _ p q => pa_cons p q) (ee_is (ee_var 2 rfl (Or.inl rfl) rfl) (congrArg Rs.dat (u_uui_t2t2iit2ii_some ht3))) (ea_cons (fun _ _ _ p q => pa_cons p q) (ee_call g_back_rows (Nat.le_of_ble_eq_true rfl) (by rfl) (ea_cons (fun _ _ _ p q => pa_cons p q) (ee_is (ee_var 3 rfl (Or.inl rfl) rfl) (congrArg Rs.dat (u_uui_t2t2iit2ii_some ht4))) ea_nil) ⟨t4, rfl, rfl, t5, ht5, rfl⟩ (mu_dat mu_nil)) ea_nil)) ⟨t3, t5, rfl, rfl, t6, ht6, rfl⟩ (mu_dat (mu_dat mu_nil))) rfl) ?_
  show Ex _ _ [.dat (e_ut3iii v_points), .dat (e_ut3iii v_far_points), .dat (e_uui t1.2), .dat (e_uui t2.2), .dat (e_t2t2iit2ii t6), .un, .un, .un] _ _
  obtain ⟨t7, ht7, h⟩ := bindS h
  obtain ⟨t8, ht8, h⟩ := bindS h
  refine ex_cons (ss_asgS (fun _ => rfl) (fun X hX => (sw_env (env' := env0 (defScope s_move_in)) hX.sc _ _).trans rfl) (fun _ => rfl) (ee_call g_led_in (Nat.le_of_ble_eq_true rfl) (by rfl) (ea_cons (fun _ _ _ p q => pa_cons p q) (ee_tup (ea_cons (fun _ _ _ p q => pa_cons p q) (ee_var 4 rfl (Or.inl rfl) rfl) (ea_cons (fun _ _ _ p q => pa_cons p q) (ee_tup (ea_cons (fun _ _ _ p q => pa_cons p q) ee_int (ea_cons (fun _ _ _ p q => pa_cons p q) ee_int ea_nil)) rfl (lnOk 2 rfl (by decide))) ea_nil)) rfl (lnOk 2 rfl (by decide))) (ea_cons (fun _ _ _ p q => pa_cons p q) (ee_ixT (fun X _ _ p q => pe_ix ix_tup p q (fun _ _ => rfl)) (ee_var 0 rfl (Or.inl rfl) rfl) ee_int (atI_map e_t3iii ht7)) ea_nil)) ⟨(t6, (0, 0)), t7, rfl, rfl, t8, ht8, rfl⟩ (mu_dat (mu_dat mu_nil))) rfl (eg_tup (fun _ => rfl) (fun _ => rfl) (egs_cons (fun _ _ _ p q => pgs_cons p q) (eg_name 5 sc_move_in.nd rfl (Or.inl rfl) (.inl rfl)) (egs_cons (fun _ _ _ p q => pgs_cons p q) (eg_name 6 sc_move_in.nd rfl (Or.inl rfl) (.inl rfl)) (egs_cons (fun _ _ _ p q => pgs_cons p q) (eg_name 7 sc_move_in.nd rfl (Or.inl rfl) (.inl rfl)) egs_nil))))) ?_
  show Ex _ _ [.dat (e_ut3iii v_points), .dat (e_ut3iii v_far_points), .dat (e_uui t1.2), .dat (e_uui t2.2), .dat (e_t2t2iit2ii t6), .dat (.int t8.1), .dat (.int t8.2.1), .dat (.int t8.2.2)] _ _
  obtain ⟨t9, ht9, h⟩ := bindS h
  obtain ⟨t10, ht10, h⟩ := bindS h
  obtain rfl := someS h
  exact ex_out (ss_ret (ee_tup (ea_cons (fun _ _ _ p q => pa_cons p q) (ee_var 4 rfl (Or.inl rfl) rfl) (ea_cons (fun _ _ _ p q => pa_cons p q) (ee_tup (ea_cons (fun _ _ _ p q => pa_cons p q) (ee_sub (ee_ixT (fun X _ _ p q => pe_ix ix_tup p q (fun _ _ => rfl)) (ee_ixT (fun X _ _ p q => pe_ix ix_tup p q (fun _ _ => rfl)) (ee_var 1 rfl (Or.inl rfl) rfl) ee_int (atI_map e_t3iii ht9)) ee_int (by rfl)) (ee_var 5 rfl (Or.inl rfl) rfl)) (ea_cons (fun _ _ _ p q => pa_cons p q) (ee_sub (ee_ixT (fun X _ _ p q => pe_ix ix_tup p q (fun _ _ => rfl)) (ee_ixT (fun X _ _ p q => pe_ix ix_tup p q (fun _ _ => rfl)) (ee_var 1 rfl (Or.inl rfl) rfl) ee_int (atI_map e_t3iii ht10)) ee_int (by rfl)) (ee_var 6 rfl (Or.inl rfl) rfl)) ea_nil)) rfl (lnOk 2 rfl (by decide))) ea_nil)) rfl (lnOk 2 rfl (by decide)))) rfl fin_dat

def s_same_paper : Stmt := topS 34
def nm_same_paper : List Str := ["points", "far_points", "form", "far_form"]
theorem sc_same_paper : FnScope nm_same_paper ["points", "far_points"] (defScope s_same_paper) := ⟨rfl, rfl, rfl, by decide +kernel, rfl, by decide +kernel, by decide +kernel⟩
def m_same_paper (v_points : (List (Int × Int × Int))) (v_far_points : (List (Int × Int × Int))) : Option (D) := (m_require_rows v_points v_far_points).bind fun t1 => (m_form_in v_points).bind fun t2 => (m_form_in v_far_points).bind fun t3 => (eqO (e_uui t2.1) (e_uui t3.1)).bind fun t4 => (if t4 = true then ((m_move_in v_points v_far_points).bind fun t5 => some (e_t2st2t2t2iit2iit2ii ((Str.ofString "move"), t5))) else (some (e_t3suuiuui ((Str.ofString "unlike"), t2.1, t3.1)))).bind fun t6 => some t6
def R_same_paper : Rel := fun rs ms r ms2 => ∃ (v_points : (List (Int × Int × Int))) (v_far_points : (List (Int × Int × Int))), rs = [.dat (e_ut3iii v_points), .dat (e_ut3iii v_far_points)] ∧ ms2 = ms ∧ ∃ v : D, m_same_paper v_points v_far_points = some v ∧ r = .dat v
theorem kn_same_paper (T : Txt K mg) {f : Addr} {fd : FuncData} (Fu : Fun K "same_paper" "same_paper" s_same_paper f fd) (hmf : mg "same_paper" = some (.ref f)) (g_require_rows : Kn P w K mg base 4 "require_rows" R_require_rows) (g_form_in : Kn P w K mg base 3 "form_in" R_form_in) (g_move_in : Kn P w K mg base 4 "move_in" R_move_in) : Kn P w K mg base 5 "same_paper" R_same_paper := by
  have hb := Fu.binds (ps := ["points", "far_points"]) fun _ _ _ _ _ _ us hl => match us, hl with | [_, _], _ => rfl
  refine kn_of (kk := 4) Fu sc_same_paper hb hmf rfl (by decide) (by rintro rs ms0 r ms ⟨v_points, v_far_points, rfl, rfl, v, h, rfl⟩; exact ⟨rfl, rfl⟩) ?_
  rintro rs ms0 r ms ⟨v_points, v_far_points, rfl, rfl, v, h, rfl⟩
  show Ex _ _ [.dat (e_ut3iii v_points), .dat (e_ut3iii v_far_points), .un, .un] ms (fun o => Fin ms o (.dat v))
  unfold m_same_paper at h
  show Ex _ _ [.dat (e_ut3iii v_points), .dat (e_ut3iii v_far_points), .un, .un] _ _
  obtain ⟨t1, ht1, h⟩ := bindS h
  refine ex_cons (ss_drop (fun _ => rfl) (ee_call g_require_rows (Nat.le_of_ble_eq_true rfl) (by rfl) (ea_cons (fun _ _ _ p q => pa_cons p q) (ee_var 0 rfl (Or.inl rfl) rfl) (ea_cons (fun _ _ _ p q => pa_cons p q) (ee_var 1 rfl (Or.inl rfl) rfl) ea_nil)) ⟨v_points, v_far_points, rfl, rfl, t1, ht1, rfl⟩ (mu_dat (mu_dat mu_nil)))) ?_
  obtain ⟨t2, ht2, h⟩ := bindS h
  obtain ⟨t3, ht3, h⟩ := bindS h
  refine ex_cons (ss_par 2 3 sc_same_paper.nd rfl rfl (by decide) rfl rfl (fun X hX => (sw_env (env' := env0 (defScope s_same_paper)) hX.sc _ _).trans rfl) (ea_cons (fun _ _ _ p q => pa_cons p q) (ee_ixT (fun X _ _ p q => pe_ix ix_tup p q (fun _ _ => rfl)) (ee_call g_form_in (Nat.le_of_ble_eq_true rfl) (by rfl) (ea_cons (fun _ _ _ p q => pa_cons p q) (ee_var 0 rfl (Or.inl rfl) rfl) ea_nil) ⟨v_points, rfl, rfl, t2, ht2, rfl⟩ (mu_dat mu_nil)) ee_int (by rfl)) (ea_cons (fun _ _ _ p q => pa_cons p q) (ee_ixT (fun X _ _ p q => pe_ix ix_tup p q (fun _ _ => rfl)) (ee_call g_form_in (Nat.le_of_ble_eq_true rfl) (by rfl) (ea_cons (fun _ _ _ p q => pa_cons p q) (ee_var 1 rfl (Or.inl rfl) rfl) ea_nil) ⟨v_far_points, rfl, rfl, t3, ht3, rfl⟩ (mu_dat mu_nil)) ee_int (by rfl)) ea_nil)) rfl rfl) ?_
  show Ex _ _ [.dat (e_ut3iii v_points), .dat (e_ut3iii v_far_points), .dat (e_uui t2.1), .dat (e_uui t3.1)] _ _
  obtain ⟨t4, ht4, h⟩ := bindS h
  obtain ⟨t6, ht6, h⟩ := bindS h
  obtain rfl := someS h
  exact ex_out (ss_ret (ee_ifO (fun d : D => d) (et_eqO (nobehind _ (by decide) (by decide)) (ee_var 2 rfl (Or.inl rfl) rfl) (ee_var 3 rfl (Or.inl rfl) rfl) rfl rfl ht4) ht6 (fun _ g7 => by obtain ⟨t5, ht5, g7⟩ := bindS g7; obtain rfl := someS g7; exact (ee_tup (ea_cons (fun _ _ _ p q => pa_cons p q) (ee_gstr T.c_MOVE (by rfl)) (ea_cons (fun _ _ _ p q => pa_cons p q) (ee_call g_move_in (Nat.le_of_ble_eq_true rfl) (by rfl) (ea_cons (fun _ _ _ p q => pa_cons p q) (ee_var 0 rfl (Or.inl rfl) rfl) (ea_cons (fun _ _ _ p q => pa_cons p q) (ee_var 1 rfl (Or.inl rfl) rfl) ea_nil)) ⟨v_points, v_far_points, rfl, rfl, t5, ht5, rfl⟩ (mu_dat (mu_dat mu_nil))) ea_nil)) rfl (lnOk 2 rfl (by decide)))) (fun _ g8 => by obtain rfl := someS g8; exact (ee_tup (ea_cons (fun _ _ _ p q => pa_cons p q) (ee_gstr T.c_UNLIKE (by rfl)) (ea_cons (fun _ _ _ p q => pa_cons p q) (ee_var 2 rfl (Or.inl rfl) rfl) (ea_cons (fun _ _ _ p q => pa_cons p q) (ee_var 3 rfl (Or.inl rfl) rfl) ea_nil))) rfl (lnOk 3 rfl (by decide)))))) rfl fin_dat

def s__law_word_right : Stmt := topS 49
def nm__law_word_right : List Str := ["dice", "steps", "places", "move", "at", "gone", "step", "back", "rest", "first", "turn"]
theorem sc__law_word_right : FnScope nm__law_word_right ["dice"] (defScope s__law_word_right) := ⟨rfl, rfl, rfl, by decide +kernel, rfl, by decide +kernel, by decide +kernel⟩
def m__law_word_right (d : Dice)  : Option (Bool × Dice) := (m__law_drawn d ).bind fun p1 => (rgO 3).bind fun t2 => (szO t2).bind fun t3 => (mapS (fun (x4 : Int) (d5 : Dice) => (m__law_roll d5 19).bind fun p8 => (m__law_roll p8.2 19).bind fun p9 => some (((p8.1 - 9), (p9.1 - 9), 1), p9.2)) t2 p1.2).bind fun p10 => (m__law_made p1.1).bind fun t11 => (m__law_roll p10.2 ((p1.1.length : Int) + 1)).bind fun p12 => (m_is_whole_move (e_t2t2t2iit2iit2ii t11)).bind fun t13 => (if (!decide (t13 = true)) = true then some true else ((m__law_made (cutL p1.1 none (some p12.1))).bind fun t14 => (m__law_made (cutL p1.1 (some p12.1) none)).bind fun t15 => (m_led_behind t14 t15).bind fun t16 => (eqO (e_t2t2t2iit2iit2ii t16) (e_t2t2t2iit2iit2ii t11)).bind fun t17 => some (!t17))).bind fun t19 => if t19 = true then (some (false, p12.2)) else ((forS (fun (x22 : (((Int × Int) × (Int × Int)) × (Int × Int))) (s21 : (List (Int × Int × Int))) => (m_led x22 s21).bind fun t25 => some t25) (p1.1 : List (((Int × Int) × (Int × Int)) × (Int × Int))) p10.1).bind fun s24 => (m_led t11 p10.1).bind fun t26 => (eqO (e_ut3iii t26) (e_ut3iii s24)).bind fun t27 => (if (!t27) = true then some true else ((m_is_same_paper p10.1 s24 (e_t2st2t2t2iit2iit2ii ((Str.ofString "move"), t11))).bind fun t28 => some (!decide (t28 = true)))).bind fun t30 => if t30 = true then (some (false, p12.2)) else ((m__law_back p1.1).bind fun t32 => (m__law_made t32).bind fun t33 => (m_led_behind t11 t33).bind fun t34 => (m__law_still ).bind fun t35 => (eqO (e_t2t2t2iit2iit2ii t34) (e_t2t2t2iit2iit2ii t35)).bind fun t36 => (if (!t36) = true then some true else ((m_led_behind t33 t11).bind fun t37 => (m__law_still ).bind fun t38 => (eqO (e_t2t2t2iit2iit2ii t37) (e_t2t2t2iit2iit2ii t38)).bind fun t39 => (if (!t39) = true then some true else ((m_led t33 s24).bind fun t40 => (eqO (e_ut3iii t40) (e_ut3iii p10.1)).bind fun t41 => some (!t41))).bind fun t43 => some t43)).bind fun t45 => if t45 = true then (some (false, p12.2)) else ((m__law_undone t11).bind fun t47 => (catO ([t11] : List (((Int × Int) × (Int × Int)) × (Int × Int))) t47).bind fun t48 => (m__law_made t48).bind fun t49 => (eqO (e_t2t2iit2ii t49.1) (e_t2t2iit2ii ((1, 0), (0, 1)))).bind fun t50 => if (!t50) = true then (some (false, p12.2)) else ((m_led t11 [((0, 0, 1), (1, 0, 1), (0, 1, 1)).1, ((0, 0, 1), (1, 0, 1), (0, 1, 1)).2.1, ((0, 0, 1), (1, 0, 1), (0, 1, 1)).2.2]).bind fun t52 => (m_same_paper [((0, 0, 1), (1, 0, 1), (0, 1, 1)).1, ((0, 0, 1), (1, 0, 1), (0, 1, 1)).2.1, ((0, 0, 1), (1, 0, 1), (0, 1, 1)).2.2] t52).bind fun t53 => (eqO t53 (e_t2st2t2t2iit2iit2ii ((Str.ofString "move"), t11))).bind fun t54 => some (t54, p12.2)))))
def A__law_word_right : List Rs → Dice → Rs → Dice → Prop := fun args d r d2 => args = [] ∧ ∃ v : Bool × Dice, m__law_word_right d = some v ∧ r = .dat (.bool v.1) ∧ d2 = v.2
abbrev R__law_word_right : Rel := RelD 1 A__law_word_right
theorem kn__law_word_right (T : Txt K mg) {f : Addr} {fd : FuncData} (Fu : Fun K "_law_word_right" "_law_word_right" s__law_word_right f fd) (hmf : mg "_law_word_right" = some (.ref f)) (g__law_drawn : Kn P w K mg base 2 "_law_drawn" R__law_drawn) (g__law_roll : Kn P w K mg base 1 "_law_roll" R__law_roll) (g__law_made : Kn P w K mg base 7 "_law_made" R__law_made) (g_is_whole_move : Kn P w K mg base 5 "is_whole_move" R_is_whole_move) (g_led_behind : Kn P w K mg base 6 "led_behind" R_led_behind) (g_led : Kn P w K mg base 6 "led" R_led) (g_is_same_paper : Kn P w K mg base 5 "is_same_paper" R_is_same_paper) (g__law_back : Kn P w K mg base 1 "_law_back" R__law_back) (g__law_still : Kn P w K mg base 1 "_law_still" R__law_still) (g__law_undone : Kn P w K mg base 2 "_law_undone" R__law_undone) (g_same_paper : Kn P w K mg base 5 "same_paper" R_same_paper) : Kn P w K mg base 8 "_law_word_right" R__law_word_right := by
  have hb := Fu.binds (ps := ["dice"]) fun _ _ _ _ _ _ us hl => match us, hl with | [_], _ => rfl
  refine kn_of (kk := 7) Fu sc__law_word_right hb hmf rfl (by decide) relD_len ?_
  rintro rs ms r ms' ⟨mc, k, d, d', tl, args, hkm, rfl, hnn, rfl, rfl, rfl, v, h, rfl, rfl⟩
  show Ex _ _ [.mu k, .un, .un, .un, .un, .un, .un, .un, .un, .un, .un] (MD mc k d ++ tl) (fun o => Fin (MD mc k v.2 ++ tl) o (.dat (.bool v.1)))
  unfold m__law_word_right at h
  show Ex _ _ [.mu k, .un, .un, .un, .un, .un, .un, .un, .un, .un, .un] _ _
  obtain ⟨p1, hp1, h⟩ := bindS h
  refine ex_cons (ss_set 1 sc__law_word_right.nd rfl (Or.inl rfl) (.inl rfl) (fun _ => rfl) (ee_callD (r := .new (p1.1.map e_t2t2t2iit2iit2ii)) (d' := p1.2) hkm g__law_drawn (Nat.le_of_ble_eq_true rfl) (by rfl) rfl (ea_cons (fun _ _ _ p q => pa_cons p q) (ee_mu 0 rfl (Or.inr (Or.inl rfl)) rfl) ea_nil) ⟨rfl, p1, hp1, rfl, rfl⟩ (mu_mu (.inr tch0) mu_nil)) rfl) ?_
  show Ex _ _ [.mu k, .dat (e_lt2t2t2iit2iit2ii p1.1), .un, .un, .un, .un, .un, .un, .un, .un, .un] _ _
  obtain ⟨t2, ht2, h⟩ := bindS h
  obtain ⟨t3, ht3, h⟩ := bindS h
  obtain ⟨p10, hp10, h⟩ := bindS h
  refine ex_cons (ss_set 2 sc__law_word_right.nd rfl (Or.inl rfl) (.inl rfl) (fun _ => rfl) (ee_tuple T.tuple (by rfl) (ea_cons (fun _ _ _ p q => pa_cons p q) (ee_lcS (tl := tl) [("turn", 10)] PyData.int e_t3iii t2 _ sc__law_word_right.nd (blkOk_by (N := nm__law_word_right) (sc := defScope s__law_word_right) (by decide +kernel)) (fun _ _ => rfl) (it_rngO T.range (by rfl) (fun X _ h1 h2 h3 => pi_range1 h2 h3 h1) (ea_cons (fun _ _ _ p q => pa_cons p q) ee_int ea_nil) ht2) (fun _ _ => trivial) (by first | exact Nat.le_refl _ | (simp only [List.length_append, MD_len, M2_len, List.length_cons, List.length_nil, Sx.blk]; omega)) (fun x4 _ d5 y7 ex g6 => by obtain ⟨p8, hp8, g6⟩ := bindS g6; obtain ⟨p9, hp9, g6⟩ := bindS g6; obtain rfl := someS g6; exact ⟨_, _, by decide, (eg_name 10 sc__law_word_right.nd rfl (Or.inl rfl) (.inr rfl)), _, (ee_tup (ea_cons (fun _ _ _ p q => pa_cons p q) (ee_sub (ee_callD (r := .dat (.int p8.1)) (d' := p8.2) hkm g__law_roll (Nat.le_of_ble_eq_true rfl) (by rfl) rfl (ea_cons (fun _ _ _ p q => pa_cons p q) (ee_mu 0 rfl (Or.inr (Or.inl rfl)) rfl) (ea_cons (fun _ _ _ p q => pa_cons p q) ee_int ea_nil)) ⟨19, rfl, p8, hp8, rfl, rfl⟩ (mu_mu (.inr tch0) (mu_dat mu_nil))) ee_int) (ea_cons (fun _ _ _ p q => pa_cons p q) (ee_sub (ee_callD (r := .dat (.int p9.1)) (d' := p9.2) hkm g__law_roll (Nat.le_of_ble_eq_true rfl) (by rfl) rfl (ea_cons (fun _ _ _ p q => pa_cons p q) (ee_mu 0 rfl (Or.inr (Or.inl rfl)) rfl) (ea_cons (fun _ _ _ p q => pa_cons p q) ee_int ea_nil)) ⟨19, rfl, p9, hp9, rfl, rfl⟩ (mu_mu (.inr tch0) (mu_dat mu_nil))) ee_int) (ea_cons (fun _ _ _ p q => pa_cons p q) ee_int ea_nil))) rfl (lnOk 3 rfl (by decide))), rfl⟩) hp10 (szO_some ht3).1) ea_nil) rfl) rfl) ?_
  show Ex _ _ [.mu k, .dat (e_lt2t2t2iit2iit2ii p1.1), .dat (e_ut3iii p10.1), .un, .un, .un, .un, .un, .un, .un, .un] _ _
  obtain ⟨t11, ht11, h⟩ := bindS h
  obtain ⟨p12, hp12, h⟩ := bindS h
  refine ex_cons (ss_par 3 4 sc__law_word_right.nd rfl rfl (by decide) rfl rfl (fun X hX => (sw_env (env' := env0 (defScope s__law_word_right)) hX.sc _ _).trans rfl) (ea_cons (fun _ _ _ p q => pa_cons p q) (ee_call g__law_made (Nat.le_of_ble_eq_true rfl) (by rfl) (ea_cons (fun _ _ _ p q => pa_cons p q) (ee_var 1 rfl (Or.inl rfl) rfl) ea_nil) ⟨p1.1, rfl, rfl, t11, ht11, rfl⟩ (mu_dat mu_nil)) (ea_cons (fun _ _ _ p q => pa_cons p q) (ee_callD (r := .dat (.int p12.1)) (d' := p12.2) hkm g__law_roll (Nat.le_of_ble_eq_true rfl) (by rfl) rfl (ea_cons (fun _ _ _ p q => pa_cons p q) (ee_mu 0 rfl (Or.inr (Or.inl rfl)) rfl) (ea_cons (fun _ _ _ p q => pa_cons p q) (ee_add (ee_is (ee_len T.len (by rfl) (ea_cons (fun _ _ _ p q => pa_cons p q) (ee_var 1 rfl (Or.inl rfl) rfl) ea_nil) rfl) (by rw [List.length_map])) ee_int) ea_nil)) ⟨((p1.1.length : Int) + 1), rfl, p12, hp12, rfl, rfl⟩ (mu_mu (.inr tch0) (mu_dat mu_nil))) ea_nil)) rfl rfl) ?_
  show Ex _ _ [.mu k, .dat (e_lt2t2t2iit2iit2ii p1.1), .dat (e_ut3iii p10.1), .dat (e_t2t2t2iit2iit2ii t11), .dat (.int p12.1), .un, .un, .un, .un, .un, .un] _ _
  obtain ⟨t13, ht13, h⟩ := bindS h
  obtain ⟨t19, ht19, h⟩ := bindS h
  rcases boolCases t19 with hc20 | hc20
  · have h := iteT' hc20 h
    refine ex_ifT (et_w (ew_orO (et_notB (nobehind _ (by decide) (by decide)) (ee_call g_is_whole_move (Nat.le_of_ble_eq_true rfl) (by rfl) (ea_cons (fun _ _ _ p q => pa_cons p q) (ee_var 3 rfl (Or.inl rfl) rfl) ea_nil) ⟨(e_t2t2t2iit2iit2ii t11), rfl, rfl, t13, ht13, rfl⟩ (mu_dat mu_nil)) ee_bool) ht19 (fun _ g18 => by obtain ⟨t14, ht14, g18⟩ := bindS g18; obtain ⟨t15, ht15, g18⟩ := bindS g18; obtain ⟨t16, ht16, g18⟩ := bindS g18; obtain ⟨t17, ht17, g18⟩ := bindS g18; obtain rfl := someS g18; exact (ew_or1 (et_neO (nobehind _ (by decide) (by decide)) (ee_call g_led_behind (Nat.le_of_ble_eq_true rfl) (by rfl) (ea_cons (fun _ _ _ p q => pa_cons p q) (ee_call g__law_made (Nat.le_of_ble_eq_true rfl) (by rfl) (ea_cons (fun _ _ _ p q => pa_cons p q) (ee_is (r' := .new ((cutL p1.1 none (some p12.1)).map e_t2t2t2iit2iit2ii)) (ee_slL (ds := (p1.1 : List (((Int × Int) × (Int × Int)) × (Int × Int))).map e_t2t2t2iit2iit2ii) (ee_var 1 rfl (Or.inl rfl) rfl) eo_none (eo_some (ee_var 4 rfl (Or.inl rfl) rfl)) rfl) (by rw [cutD_map])) ea_nil) ⟨(cutL p1.1 none (some p12.1)), rfl, rfl, t14, ht14, rfl⟩ (mu_dat mu_nil)) (ea_cons (fun _ _ _ p q => pa_cons p q) (ee_call g__law_made (Nat.le_of_ble_eq_true rfl) (by rfl) (ea_cons (fun _ _ _ p q => pa_cons p q) (ee_is (r' := .new ((cutL p1.1 (some p12.1) none).map e_t2t2t2iit2iit2ii)) (ee_slL (ds := (p1.1 : List (((Int × Int) × (Int × Int)) × (Int × Int))).map e_t2t2t2iit2iit2ii) (ee_var 1 rfl (Or.inl rfl) rfl) (eo_some (ee_var 4 rfl (Or.inl rfl) rfl)) eo_none rfl) (by rw [cutD_map])) ea_nil) ⟨(cutL p1.1 (some p12.1) none), rfl, rfl, t15, ht15, rfl⟩ (mu_dat mu_nil)) ea_nil)) ⟨t14, t15, rfl, rfl, t16, ht16, rfl⟩ (mu_dat (mu_dat mu_nil))) (ee_var 3 rfl (Or.inl rfl) rfl) rfl rfl ht17))))) hc20 ?_
    obtain rfl := someS h
    exact ex_out (ss_ret ee_bool) rfl fin_dat
  · have h := iteF' hc20 h
    refine ex_ifF0 (et_w (ew_orO (et_notB (nobehind _ (by decide) (by decide)) (ee_call g_is_whole_move (Nat.le_of_ble_eq_true rfl) (by rfl) (ea_cons (fun _ _ _ p q => pa_cons p q) (ee_var 3 rfl (Or.inl rfl) rfl) ea_nil) ⟨(e_t2t2t2iit2iit2ii t11), rfl, rfl, t13, ht13, rfl⟩ (mu_dat mu_nil)) ee_bool) ht19 (fun _ g18 => by obtain ⟨t14, ht14, g18⟩ := bindS g18; obtain ⟨t15, ht15, g18⟩ := bindS g18; obtain ⟨t16, ht16, g18⟩ := bindS g18; obtain ⟨t17, ht17, g18⟩ := bindS g18; obtain rfl := someS g18; exact (ew_or1 (et_neO (nobehind _ (by decide) (by decide)) (ee_call g_led_behind (Nat.le_of_ble_eq_true rfl) (by rfl) (ea_cons (fun _ _ _ p q => pa_cons p q) (ee_call g__law_made (Nat.le_of_ble_eq_true rfl) (by rfl) (ea_cons (fun _ _ _ p q => pa_cons p q) (ee_is (r' := .new ((cutL p1.1 none (some p12.1)).map e_t2t2t2iit2iit2ii)) (ee_slL (ds := (p1.1 : List (((Int × Int) × (Int × Int)) × (Int × Int))).map e_t2t2t2iit2iit2ii) (ee_var 1 rfl (Or.inl rfl) rfl) eo_none (eo_some (ee_var 4 rfl (Or.inl rfl) rfl)) rfl) (by rw [cutD_map])) ea_nil) ⟨(cutL p1.1 none (some p12.1)), rfl, rfl, t14, ht14, rfl⟩ (mu_dat mu_nil)) (ea_cons (fun _ _ _ p q => pa_cons p q) (ee_call g__law_made (Nat.le_of_ble_eq_true rfl) (by rfl) (ea_cons (fun _ _ _ p q => pa_cons p q) (ee_is (r' := .new ((cutL p1.1 (some p12.1) none).map e_t2t2t2iit2iit2ii)) (ee_slL (ds := (p1.1 : List (((Int × Int) × (Int × Int)) × (Int × Int))).map e_t2t2t2iit2iit2ii) (ee_var 1 rfl (Or.inl rfl) rfl) (eo_some (ee_var 4 rfl (Or.inl rfl) rfl)) eo_none rfl) (by rw [cutD_map])) ea_nil) ⟨(cutL p1.1 (some p12.1) none), rfl, rfl, t15, ht15, rfl⟩ (mu_dat mu_nil)) ea_nil)) ⟨t14, t15, rfl, rfl, t16, ht16, rfl⟩ (mu_dat (mu_dat mu_nil))) (ee_var 3 rfl (Or.inl rfl) rfl) rfl rfl ht17))))) hc20 ?_
    refine ex_cons (ss_set 5 sc__law_word_right.nd rfl (Or.inl rfl) (.inl rfl) (fun _ => rfl) (ee_var 2 rfl (Or.inl rfl) rfl) rfl) ?_
    show Ex _ _ [.mu k, .dat (e_lt2t2t2iit2iit2ii p1.1), .dat (e_ut3iii p10.1), .dat (e_t2t2t2iit2iit2ii t11), .dat (.int p12.1), .dat (e_ut3iii p10.1), .un, .un, .un, .un, .un] _ _
    obtain ⟨s24, hs24, h⟩ := bindS h
    refine ex_cons (ss_forS (s0 := p10.1) e_t2t2t2iit2iit2ii _ _ (fun s21 : (List (Int × Int × Int)) => [.mu k, .dat (e_lt2t2t2iit2iit2ii p1.1), .dat (e_ut3iii p10.1), .dat (e_t2t2t2iit2iit2ii t11), .dat (.int p12.1), .dat (e_ut3iii s21), .un, .un, .un, .un, .un]) (fun s21 : (List (Int × Int × Int)) => (MD mc k p12.2 ++ tl)) (mc.length + tl.length) (fun _ _ => rfl) (it_list (ds := (p1.1 : List (((Int × Int) × (Int × Int)) × (Int × Int))).map e_t2t2t2iit2iit2ii) (fun X _ h => pi_list h) (ee_var 1 rfl (Or.inl rfl) rfl) rfl) (fun _ => rfl) (fun _ => MD_lenN) (.cons (.mu (by first | omega | (simp only [List.length_append, MD_len, M2_len, List.length_cons, List.length_nil, Sx.blk]; omega))) (.cons .dat (.cons .dat (.cons .dat (.cons .dat (.cons .dat (.cons .un (.cons .un (.cons .un (.cons .un (.cons .un .nil)))))))))))
      (fun x22 _ s21 s23 h => ⟨_, _, (eg_name 6 sc__law_word_right.nd rfl (Or.inl rfl) (.inl rfl)), by
        show Ex _ _ [.mu k, .dat (e_lt2t2t2iit2iit2ii p1.1), .dat (e_ut3iii p10.1), .dat (e_t2t2t2iit2iit2ii t11), .dat (.int p12.1), .dat (e_ut3iii s21), .dat (e_t2t2t2iit2iit2ii x22), .un, .un, .un, .un] _ _
        obtain ⟨t25, ht25, h⟩ := bindS h
        refine ex_cons (ss_set 5 sc__law_word_right.nd rfl (Or.inl rfl) (.inl rfl) (fun _ => rfl) (ee_call g_led (Nat.le_of_ble_eq_true rfl) (by rfl) (ea_cons (fun _ _ _ p q => pa_cons p q) (ee_var 6 rfl (Or.inl rfl) rfl) (ea_cons (fun _ _ _ p q => pa_cons p q) (ee_var 5 rfl (Or.inl rfl) rfl) ea_nil)) ⟨x22, s21, rfl, rfl, t25, ht25, rfl⟩ (mu_dat (mu_dat mu_nil))) rfl) ?_
        obtain rfl := someS h
        exact ex_nil (turn_go (.cons (.mu (by first | omega | (simp only [List.length_append, MD_len, M2_len, List.length_cons, List.length_nil, Sx.blk]; omega))) (.cons .dat (.cons .dat (.cons .dat (.cons .dat (.cons .dat (.cons .un (.cons .un (.cons .un (.cons .un (.cons .un .nil))))))))))))
      ⟩) hs24) ?_
    show Ex _ _ [.mu k, .dat (e_lt2t2t2iit2iit2ii p1.1), .dat (e_ut3iii p10.1), .dat (e_t2t2t2iit2iit2ii t11), .dat (.int p12.1), .dat (e_ut3iii s24), .un, .un, .un, .un, .un] _ _
    obtain ⟨t26, ht26, h⟩ := bindS h
    obtain ⟨t27, ht27, h⟩ := bindS h
    obtain ⟨t30, ht30, h⟩ := bindS h
    rcases boolCases t30 with hc31 | hc31
    · have h := iteT' hc31 h
      refine ex_ifT (et_w (ew_orO (et_neO (nobehind _ (by decide) (by decide)) (ee_call g_led (Nat.le_of_ble_eq_true rfl) (by rfl) (ea_cons (fun _ _ _ p q => pa_cons p q) (ee_var 3 rfl (Or.inl rfl) rfl) (ea_cons (fun _ _ _ p q => pa_cons p q) (ee_var 2 rfl (Or.inl rfl) rfl) ea_nil)) ⟨t11, p10.1, rfl, rfl, t26, ht26, rfl⟩ (mu_dat (mu_dat mu_nil))) (ee_var 5 rfl (Or.inl rfl) rfl) rfl rfl ht27) ht30 (fun _ g29 => by obtain ⟨t28, ht28, g29⟩ := bindS g29; obtain rfl := someS g29; exact (ew_or1 (et_notB (nobehind _ (by decide) (by decide)) (ee_call g_is_same_paper (Nat.le_of_ble_eq_true rfl) (by rfl) (ea_cons (fun _ _ _ p q => pa_cons p q) (ee_var 2 rfl (Or.inl rfl) rfl) (ea_cons (fun _ _ _ p q => pa_cons p q) (ee_var 5 rfl (Or.inl rfl) rfl) (ea_cons (fun _ _ _ p q => pa_cons p q) (ee_tup (ea_cons (fun _ _ _ p q => pa_cons p q) ee_str (ea_cons (fun _ _ _ p q => pa_cons p q) (ee_var 3 rfl (Or.inl rfl) rfl) ea_nil)) rfl (lnOk 2 rfl (by decide))) ea_nil))) ⟨p10.1, s24, (e_t2st2t2t2iit2iit2ii ((Str.ofString "move"), t11)), rfl, rfl, t28, ht28, rfl⟩ (mu_dat (mu_dat (mu_dat mu_nil)))) ee_bool))))) hc31 ?_
      obtain rfl := someS h
      exact ex_out (ss_ret ee_bool) rfl fin_dat
    · have h := iteF' hc31 h
      refine ex_ifF0 (et_w (ew_orO (et_neO (nobehind _ (by decide) (by decide)) (ee_call g_led (Nat.le_of_ble_eq_true rfl) (by rfl) (ea_cons (fun _ _ _ p q => pa_cons p q) (ee_var 3 rfl (Or.inl rfl) rfl) (ea_cons (fun _ _ _ p q => pa_cons p q) (ee_var 2 rfl (Or.inl rfl) rfl) ea_nil)) ⟨t11, p10.1, rfl, rfl, t26, ht26, rfl⟩ (mu_dat (mu_dat mu_nil))) (ee_var 5 rfl (Or.inl rfl) rfl) rfl rfl ht27) ht30 (fun _ g29 => by obtain ⟨t28, ht28, g29⟩ := bindS g29; obtain rfl := someS g29; exact (ew_or1 (et_notB (nobehind _ (by decide) (by decide)) (ee_call g_is_same_paper (Nat.le_of_ble_eq_true rfl) (by rfl) (ea_cons (fun _ _ _ p q => pa_cons p q) (ee_var 2 rfl (Or.inl rfl) rfl) (ea_cons (fun _ _ _ p q => pa_cons p q) (ee_var 5 rfl (Or.inl rfl) rfl) (ea_cons (fun _ _ _ p q => pa_cons p q) (ee_tup (ea_cons (fun _ _ _ p q => pa_cons p q) ee_str (ea_cons (fun _ _ _ p q => pa_cons p q) (ee_var 3 rfl (Or.inl rfl) rfl) ea_nil)) rfl (lnOk 2 rfl (by decide))) ea_nil))) ⟨p10.1, s24, (e_t2st2t2t2iit2iit2ii ((Str.ofString "move"), t11)), rfl, rfl, t28, ht28, rfl⟩ (mu_dat (mu_dat (mu_dat mu_nil)))) ee_bool))))) hc31 ?_
      obtain ⟨t32, ht32, h⟩ := bindS h
      obtain ⟨t33, ht33, h⟩ := bindS h
      refine ex_cons (ss_set 7 sc__law_word_right.nd rfl (Or.inl rfl) (.inl rfl) (fun _ => rfl) (ee_call g__law_made (Nat.le_of_ble_eq_true rfl) (by rfl) (ea_cons (fun _ _ _ p q => pa_cons p q) (ee_call g__law_back (Nat.le_of_ble_eq_true rfl) (by rfl) (ea_cons (fun _ _ _ p q => pa_cons p q) (ee_var 1 rfl (Or.inl rfl) rfl) ea_nil) ⟨p1.1, rfl, rfl, t32, ht32, rfl⟩ (mu_dat mu_nil)) ea_nil) ⟨t32, rfl, rfl, t33, ht33, rfl⟩ (mu_dat mu_nil)) rfl) ?_
      show Ex _ _ [.mu k, .dat (e_lt2t2t2iit2iit2ii p1.1), .dat (e_ut3iii p10.1), .dat (e_t2t2t2iit2iit2ii t11), .dat (.int p12.1), .dat (e_ut3iii s24), .un, .dat (e_t2t2t2iit2iit2ii t33), .un, .un, .un] _ _
      obtain ⟨t34, ht34, h⟩ := bindS h
      obtain ⟨t35, ht35, h⟩ := bindS h
      obtain ⟨t36, ht36, h⟩ := bindS h
      obtain ⟨t45, ht45, h⟩ := bindS h
      rcases boolCases t45 with hc46 | hc46
      · have h := iteT' hc46 h
        refine ex_ifT (et_w (ew_orO (et_neO (nobehind _ (by decide) (by decide)) (ee_call g_led_behind (Nat.le_of_ble_eq_true rfl) (by rfl) (ea_cons (fun _ _ _ p q => pa_cons p q) (ee_var 3 rfl (Or.inl rfl) rfl) (ea_cons (fun _ _ _ p q => pa_cons p q) (ee_var 7 rfl (Or.inl rfl) rfl) ea_nil)) ⟨t11, t33, rfl, rfl, t34, ht34, rfl⟩ (mu_dat (mu_dat mu_nil))) (ee_call0 g__law_still (Nat.le_of_ble_eq_true rfl) (by rfl) ⟨rfl, rfl, t35, ht35, rfl⟩) rfl rfl ht36) ht45 (fun _ g44 => by obtain ⟨t37, ht37, g44⟩ := bindS g44; obtain ⟨t38, ht38, g44⟩ := bindS g44; obtain ⟨t39, ht39, g44⟩ := bindS g44; obtain ⟨t43, ht43, g44⟩ := bindS g44; obtain rfl := someS g44; exact (ew_orO (et_neO (nobehind _ (by decide) (by decide)) (ee_call g_led_behind (Nat.le_of_ble_eq_true rfl) (by rfl) (ea_cons (fun _ _ _ p q => pa_cons p q) (ee_var 7 rfl (Or.inl rfl) rfl) (ea_cons (fun _ _ _ p q => pa_cons p q) (ee_var 3 rfl (Or.inl rfl) rfl) ea_nil)) ⟨t33, t11, rfl, rfl, t37, ht37, rfl⟩ (mu_dat (mu_dat mu_nil))) (ee_call0 g__law_still (Nat.le_of_ble_eq_true rfl) (by rfl) ⟨rfl, rfl, t38, ht38, rfl⟩) rfl rfl ht39) ht43 (fun _ g42 => by obtain ⟨t40, ht40, g42⟩ := bindS g42; obtain ⟨t41, ht41, g42⟩ := bindS g42; obtain rfl := someS g42; exact (ew_or1 (et_neO (nobehind _ (by decide) (by decide)) (ee_call g_led (Nat.le_of_ble_eq_true rfl) (by rfl) (ea_cons (fun _ _ _ p q => pa_cons p q) (ee_var 7 rfl (Or.inl rfl) rfl) (ea_cons (fun _ _ _ p q => pa_cons p q) (ee_var 5 rfl (Or.inl rfl) rfl) ea_nil)) ⟨t33, s24, rfl, rfl, t40, ht40, rfl⟩ (mu_dat (mu_dat mu_nil))) (ee_var 2 rfl (Or.inl rfl) rfl) rfl rfl ht41))))))) hc46 ?_
        obtain rfl := someS h
        exact ex_out (ss_ret ee_bool) rfl fin_dat
      · have h := iteF' hc46 h
        refine ex_ifF0 (et_w (ew_orO (et_neO (nobehind _ (by decide) (by decide)) (ee_call g_led_behind (Nat.le_of_ble_eq_true rfl) (by rfl) (ea_cons (fun _ _ _ p q => pa_cons p q) (ee_var 3 rfl (Or.inl rfl) rfl) (ea_cons (fun _ _ _ p q => pa_cons p q) (ee_var 7 rfl (Or.inl rfl) rfl) ea_nil)) ⟨t11, t33, rfl, rfl, t34, ht34, rfl⟩ (mu_dat (mu_dat mu_nil))) (ee_call0 g__law_still (Nat.le_of_ble_eq_true rfl) (by rfl) ⟨rfl, rfl, t35, ht35, rfl⟩) rfl rfl ht36) ht45 (fun _ g44 => by obtain ⟨t37, ht37, g44⟩ := bindS g44; obtain ⟨t38, ht38, g44⟩ := bindS g44; obtain ⟨t39, ht39, g44⟩ := bindS g44; obtain ⟨t43, ht43, g44⟩ := bindS g44; obtain rfl := someS g44; exact (ew_orO (et_neO (nobehind _ (by decide) (by decide)) (ee_call g_led_behind (Nat.le_of_ble_eq_true rfl) (by rfl) (ea_cons (fun _ _ _ p q => pa_cons p q) (ee_var 7 rfl (Or.inl rfl) rfl) (ea_cons (fun _ _ _ p q => pa_cons p q) (ee_var 3 rfl (Or.inl rfl) rfl) ea_nil)) ⟨t33, t11, rfl, rfl, t37, ht37, rfl⟩ (mu_dat (mu_dat mu_nil))) (ee_call0 g__law_still (Nat.le_of_ble_eq_true rfl) (by rfl) ⟨rfl, rfl, t38, ht38, rfl⟩) rfl rfl ht39) ht43 (fun _ g42 => by obtain ⟨t40, ht40, g42⟩ := bindS g42; obtain ⟨t41, ht41, g42⟩ := bindS g42; obtain rfl := someS g42; exact (ew_or1 (et_neO (nobehind _ (by decide) (by decide)) (ee_call g_led (Nat.le_of_ble_eq_true rfl) (by rfl) (ea_cons (fun _ _ _ p q => pa_cons p q) (ee_var 7 rfl (Or.inl rfl) rfl) (ea_cons (fun _ _ _ p q => pa_cons p q) (ee_var 5 rfl (Or.inl rfl) rfl) ea_nil)) ⟨t33, s24, rfl, rfl, t40, ht40, rfl⟩ (mu_dat (mu_dat mu_nil))) (ee_var 2 rfl (Or.inl rfl) rfl) rfl rfl ht41))))))) hc46 ?_
        obtain ⟨t47, ht47, h⟩ := bindS h
        obtain ⟨t48, ht48, h⟩ := bindS h
        obtain ⟨t49, ht49, h⟩ := bindS h
        refine ex_cons (ss_set 8 sc__law_word_right.nd rfl (Or.inl rfl) (.inl rfl) (fun _ => rfl) (ee_call g__law_made (Nat.le_of_ble_eq_true rfl) (by rfl) (ea_cons (fun _ _ _ p q => pa_cons p q) (ee_cat (xs := [t11]) (ys := t47) e_t2t2t2iit2iit2ii (ee_lst (ea_cons (fun _ _ _ p q => pa_cons p q) (ee_var 3 rfl (Or.inl rfl) rfl) ea_nil) rfl (lnOk 1 rfl (by decide))) (ee_call g__law_undone (Nat.le_of_ble_eq_true rfl) (by rfl) (ea_cons (fun _ _ _ p q => pa_cons p q) (ee_var 3 rfl (Or.inl rfl) rfl) ea_nil) ⟨t11, rfl, rfl, t47, ht47, rfl⟩ (mu_dat mu_nil)) rfl rfl ht48) ea_nil) ⟨t48, rfl, rfl, t49, ht49, rfl⟩ (mu_dat mu_nil)) rfl) ?_
        show Ex _ _ [.mu k, .dat (e_lt2t2t2iit2iit2ii p1.1), .dat (e_ut3iii p10.1), .dat (e_t2t2t2iit2iit2ii t11), .dat (.int p12.1), .dat (e_ut3iii s24), .un, .dat (e_t2t2t2iit2iit2ii t33), .dat (e_t2t2t2iit2iit2ii t49), .un, .un] _ _
        obtain ⟨t50, ht50, h⟩ := bindS h
        rcases boolCases (!t50) with hc51 | hc51
        · have h := iteT' hc51 h
          refine ex_ifT (et_neO (nobehind _ (by decide) (by decide)) (ee_ixT (fun X _ _ p q => pe_ix ix_tup p q (fun _ _ => rfl)) (ee_var 8 rfl (Or.inl rfl) rfl) ee_int (by rfl)) (ee_tup (ea_cons (fun _ _ _ p q => pa_cons p q) (ee_tup (ea_cons (fun _ _ _ p q => pa_cons p q) ee_int (ea_cons (fun _ _ _ p q => pa_cons p q) ee_int ea_nil)) rfl (lnOk 2 rfl (by decide))) (ea_cons (fun _ _ _ p q => pa_cons p q) (ee_tup (ea_cons (fun _ _ _ p q => pa_cons p q) ee_int (ea_cons (fun _ _ _ p q => pa_cons p q) ee_int ea_nil)) rfl (lnOk 2 rfl (by decide))) ea_nil)) rfl (lnOk 2 rfl (by decide))) rfl rfl ht50) hc51 ?_
          obtain rfl := someS h
          exact ex_out (ss_ret ee_bool) rfl fin_dat
        · have h := iteF' hc51 h
          refine ex_ifF0 (et_neO (nobehind _ (by decide) (by decide)) (ee_ixT (fun X _ _ p q => pe_ix ix_tup p q (fun _ _ => rfl)) (ee_var 8 rfl (Or.inl rfl) rfl) ee_int (by rfl)) (ee_tup (ea_cons (fun _ _ _ p q => pa_cons p q) (ee_tup (ea_cons (fun _ _ _ p q => pa_cons p q) ee_int (ea_cons (fun _ _ _ p q => pa_cons p q) ee_int ea_nil)) rfl (lnOk 2 rfl (by decide))) (ea_cons (fun _ _ _ p q => pa_cons p q) (ee_tup (ea_cons (fun _ _ _ p q => pa_cons p q) ee_int (ea_cons (fun _ _ _ p q => pa_cons p q) ee_int ea_nil)) rfl (lnOk 2 rfl (by decide))) ea_nil)) rfl (lnOk 2 rfl (by decide))) rfl rfl ht50) hc51 ?_
          refine ex_cons (ss_set 9 sc__law_word_right.nd rfl (Or.inl rfl) (.inl rfl) (fun _ => rfl) (ee_tup (ea_cons (fun _ _ _ p q => pa_cons p q) (ee_tup (ea_cons (fun _ _ _ p q => pa_cons p q) ee_int (ea_cons (fun _ _ _ p q => pa_cons p q) ee_int (ea_cons (fun _ _ _ p q => pa_cons p q) ee_int ea_nil))) rfl (lnOk 3 rfl (by decide))) (ea_cons (fun _ _ _ p q => pa_cons p q) (ee_tup (ea_cons (fun _ _ _ p q => pa_cons p q) ee_int (ea_cons (fun _ _ _ p q => pa_cons p q) ee_int (ea_cons (fun _ _ _ p q => pa_cons p q) ee_int ea_nil))) rfl (lnOk 3 rfl (by decide))) (ea_cons (fun _ _ _ p q => pa_cons p q) (ee_tup (ea_cons (fun _ _ _ p q => pa_cons p q) ee_int (ea_cons (fun _ _ _ p q => pa_cons p q) ee_int (ea_cons (fun _ _ _ p q => pa_cons p q) ee_int ea_nil))) rfl (lnOk 3 rfl (by decide))) ea_nil))) rfl (lnOk 3 rfl (by decide))) rfl) ?_
          show Ex _ _ [.mu k, .dat (e_lt2t2t2iit2iit2ii p1.1), .dat (e_ut3iii p10.1), .dat (e_t2t2t2iit2iit2ii t11), .dat (.int p12.1), .dat (e_ut3iii s24), .un, .dat (e_t2t2t2iit2iit2ii t33), .dat (e_t2t2t2iit2iit2ii t49), .dat (e_t3t3iiit3iiit3iii ((0, 0, 1), (1, 0, 1), (0, 1, 1))), .un] _ _
          obtain ⟨t52, ht52, h⟩ := bindS h
          obtain ⟨t53, ht53, h⟩ := bindS h
          obtain ⟨t54, ht54, h⟩ := bindS h
          obtain rfl := someS h
          exact ex_out (ss_ret (ee_eqO (nobehind _ (by decide) (by decide)) (ee_call g_same_paper (Nat.le_of_ble_eq_true rfl) (by rfl) (ea_cons (fun _ _ _ p q => pa_cons p q) (ee_var 9 rfl (Or.inl rfl) rfl) (ea_cons (fun _ _ _ p q => pa_cons p q) (ee_call g_led (Nat.le_of_ble_eq_true rfl) (by rfl) (ea_cons (fun _ _ _ p q => pa_cons p q) (ee_var 3 rfl (Or.inl rfl) rfl) (ea_cons (fun _ _ _ p q => pa_cons p q) (ee_var 9 rfl (Or.inl rfl) rfl) ea_nil)) ⟨t11, [((0, 0, 1), (1, 0, 1), (0, 1, 1)).1, ((0, 0, 1), (1, 0, 1), (0, 1, 1)).2.1, ((0, 0, 1), (1, 0, 1), (0, 1, 1)).2.2], rfl, rfl, t52, ht52, rfl⟩ (mu_dat (mu_dat mu_nil))) ea_nil)) ⟨[((0, 0, 1), (1, 0, 1), (0, 1, 1)).1, ((0, 0, 1), (1, 0, 1), (0, 1, 1)).2.1, ((0, 0, 1), (1, 0, 1), (0, 1, 1)).2.2], t52, rfl, rfl, t53, ht53, rfl⟩ (mu_dat (mu_dat mu_nil))) (ee_tup (ea_cons (fun _ _ _ p q => pa_cons p q) ee_str (ea_cons (fun _ _ _ p q => pa_cons p q) (ee_var 3 rfl (Or.inl rfl) rfl) ea_nil)) rfl (lnOk 2 rfl (by decide))) rfl rfl ht54)) rfl fin_dat

def s__law_one_of : Stmt := topS 40
def nm__law_one_of : List Str := ["dice", "items"]
theorem sc__law_one_of : FnScope nm__law_one_of ["dice", "items"] (defScope s__law_one_of) := ⟨rfl, rfl, rfl, by decide +kernel, rfl, by decide +kernel, by decide +kernel⟩
def m__law_one_of {α : Type} (d : Dice) (l : List α) : Option (α × Dice) := (m__law_roll d (l.length : Int)).bind fun p => (ixO l p.1).bind fun t => some (t, p.2)
def A__law_one_of : List Rs → Dice → Rs → Dice → Prop := fun args d r d2 => ∃ l : List D, args = [.dat (.list l)] ∧ ∃ v : D × Dice, m__law_one_of d l = some v ∧ r = .dat v.1 ∧ d2 = v.2
abbrev R__law_one_of : Rel := RelD 2 A__law_one_of
theorem one_of_A {α : Type} (f : α → D) (l : List α) {d : Dice} {v : α × Dice} (h : m__law_one_of d l = some v) : A__law_one_of [.dat (.list (l.map f))] d (.dat (f v.1)) v.2 := by
  unfold m__law_one_of at h
  obtain ⟨p, h1, h⟩ := bindS h
  obtain ⟨t, h2, h⟩ := bindS h
  obtain rfl := someS h
  refine ⟨_, rfl, (f t, p.2), ?_, rfl, rfl⟩
  unfold m__law_one_of
  rw [List.length_map, h1, Option.bind_some]
  rw [show ixO (l.map f) p.1 = some (f t) from atI_map f h2]
  rfl
theorem kn__law_one_of (T : Txt K mg) {f : Addr} {fd : FuncData} (Fu : Fun K "_law_one_of" "_law_one_of" s__law_one_of f fd) (hmf : mg "_law_one_of" = some (.ref f)) (g__law_roll : Kn P w K mg base 1 "_law_roll" R__law_roll) : Kn P w K mg base 2 "_law_one_of" R__law_one_of := by
  have hb := Fu.binds (ps := ["dice", "items"]) fun _ _ _ _ _ _ us hl => match us, hl with | [_, _], _ => rfl
  refine kn_of (kk := 1) Fu sc__law_one_of hb hmf rfl (by decide) relD_len ?_
  rintro rs ms r ms' ⟨mc, k, d, d', tl, args, hkm, rfl, hnn, rfl, rfl, l, rfl, v, h, rfl, rfl⟩
  show Ex _ _ [.mu k, .dat (.list l)] (MD mc k d ++ tl) (fun o => Fin (MD mc k v.2 ++ tl) o (.dat v.1))
  unfold m__law_one_of at h
  obtain ⟨p, h1, h⟩ := bindS h
  obtain ⟨t, h2, h⟩ := bindS h
  obtain rfl := someS h
  exact ex_out (ss_ret (ee_ixL (fun X _ _ p q => pe_ix ix_list p q (fun _ _ => rfl)) (ee_var 1 rfl (Or.inl rfl) rfl) (ee_callD (r := .dat (.int p.1)) (d' := p.2) hkm g__law_roll (Nat.le_of_ble_eq_true rfl) (by rfl) rfl (ea_cons (fun _ _ _ p q => pa_cons p q) (ee_mu 0 rfl (Or.inl rfl) rfl) (ea_cons (fun _ _ _ p q => pa_cons p q) (ee_len T.len (by rfl) (ea_cons (fun _ _ _ p q => pa_cons p q) (ee_var 1 rfl (Or.inl rfl) rfl) ea_nil) rfl) ea_nil)) ⟨(l.length : Int), rfl, p, h1, rfl, rfl⟩ (mu_mu (.inr tch0) (mu_dat mu_nil))) rfl h2)) rfl fin_dat

def s__law_times : Stmt := topS 48
def nm__law_times : List Str := ["move", "a", "b", "c", "d", "s", "t", "side", "trace"]
theorem sc__law_times : FnScope nm__law_times ["move"] (defScope s__law_times) := ⟨rfl, rfl, rfl, by decide +kernel, rfl, by decide +kernel, by decide +kernel⟩
def m__law_times (v_move : (((Int × Int) × (Int × Int)) × (Int × Int))) : Option (D) := (mulO v_move.1.1.1 v_move.1.2.2).bind fun t1 => (mulO v_move.1.1.2 v_move.1.2.1).bind fun t2 => (eqO (e_t4iiii (v_move.1.1.1, v_move.1.1.2, v_move.1.2.1, v_move.1.2.2)) (e_t4iiii (1, 0, 0, 1))).bind fun t3 => if t3 = true then ((eqO (e_t2ii (v_move.2.1, v_move.2.2)) (e_t2ii (0, 0))).bind fun t5 => some (if t5 = true then (.int 1) else .none)) else (if (decide ((t1 - t2) = (-1))) = true then ((if (decide ((v_move.1.1.1 + v_move.1.2.2) = 0)) = true then ((mulO (v_move.1.1.1 + 1) v_move.2.1).bind fun t7 => (mulO v_move.1.1.2 v_move.2.2).bind fun t8 => (mulO v_move.1.2.1 v_move.2.1).bind fun t9 => (mulO (v_move.1.2.2 + 1) v_move.2.2).bind fun t10 => (eqO (e_t2ii ((t7 + t8), (t9 + t10))) (e_t2ii (0, 0))).bind fun t11 => some t11) else some false).bind fun t13 => some (if t13 = true then (.int 2) else .none)) else ((eqO (e_t4iiii (v_move.1.1.1, v_move.1.1.2, v_move.1.2.1, v_move.1.2.2)) (e_t4iiii ((-1), 0, 0, (-1)))).bind fun t14 => if t14 = true then (some (.int 2)) else ((if (decide ((v_move.1.1.1 + v_move.1.2.2) ∈ ([(-1), 0, 1] : List Int))) = true then ((dget ([(-1, 3), (0, 4), (1, 6)] : List (Int × Int)) (v_move.1.1.1 + v_move.1.2.2)).bind fun t16 => some (.int t16)) else (some .none)).bind fun t17 => some t17)))
def R__law_times : Rel := fun rs ms r ms2 => ∃ (v_move : (((Int × Int) × (Int × Int)) × (Int × Int))), rs = [.dat (e_t2t2t2iit2iit2ii v_move)] ∧ ms2 = ms ∧ ∃ v : D, m__law_times v_move = some v ∧ r = .dat v
theorem kn__law_times (T : Txt K mg) {f : Addr} {fd : FuncData} (Fu : Fun K "_law_times" "_law_times" s__law_times f fd) (hmf : mg "_law_times" = some (.ref f))  : Kn P w K mg base 1 "_law_times" R__law_times := by
  have hb := Fu.binds (ps := ["move"]) fun _ _ _ _ _ _ us hl => match us, hl with | [_], _ => rfl
  refine kn_of (kk := 0) Fu sc__law_times hb hmf rfl (by decide) (by rintro rs ms0 r ms ⟨v_move, rfl, rfl, v, h, rfl⟩; exact ⟨rfl, rfl⟩) ?_
  rintro rs ms0 r ms ⟨v_move, rfl, rfl, v, h, rfl⟩
  show Ex _ _ [.dat (e_t2t2t2iit2iit2ii v_move), .un, .un, .un, .un, .un, .un, .un, .un] ms (fun o => Fin ms o (.dat v))
  unfold m__law_times at h
  show Ex _ _ [.dat (e_t2t2t2iit2iit2ii v_move), .un, .un, .un, .un, .un, .un, .un, .un] _ _
  refine ex_cons (ss_asgS (fun _ => rfl) (fun X hX => (sw_env (env' := env0 (defScope s__law_times)) hX.sc _ _).trans rfl) (fun _ => rfl) (ee_var 0 rfl (Or.inl rfl) rfl) rfl (eg_tup (fun _ => rfl) (fun _ => rfl) (egs_cons (fun _ _ _ p q => pgs_cons p q) (eg_tup (fun _ => rfl) (fun _ => rfl) (egs_cons (fun _ _ _ p q => pgs_cons p q) (eg_tup (fun _ => rfl) (fun _ => rfl) (egs_cons (fun _ _ _ p q => pgs_cons p q) (eg_name 1 sc__law_times.nd rfl (Or.inl rfl) (.inl rfl)) (egs_cons (fun _ _ _ p q => pgs_cons p q) (eg_name 2 sc__law_times.nd rfl (Or.inl rfl) (.inl rfl)) egs_nil))) (egs_cons (fun _ _ _ p q => pgs_cons p q) (eg_tup (fun _ => rfl) (fun _ => rfl) (egs_cons (fun _ _ _ p q => pgs_cons p q) (eg_name 3 sc__law_times.nd rfl (Or.inl rfl) (.inl rfl)) (egs_cons (fun _ _ _ p q => pgs_cons p q) (eg_name 4 sc__law_times.nd rfl (Or.inl rfl) (.inl rfl)) egs_nil))) egs_nil))) (egs_cons (fun _ _ _ p q => pgs_cons p q) (eg_tup (fun _ => rfl) (fun _ => rfl) (egs_cons (fun _ _ _ p q => pgs_cons p q) (eg_name 5 sc__law_times.nd rfl (Or.inl rfl) (.inl rfl)) (egs_cons (fun _ _ _ p q => pgs_cons p q) (eg_name 6 sc__law_times.nd rfl (Or.inl rfl) (.inl rfl)) egs_nil))) egs_nil)))) ?_
  show Ex _ _ [.dat (e_t2t2t2iit2iit2ii v_move), .dat (.int v_move.1.1.1), .dat (.int v_move.1.1.2), .dat (.int v_move.1.2.1), .dat (.int v_move.1.2.2), .dat (.int v_move.2.1), .dat (.int v_move.2.2), .un, .un] _ _
  obtain ⟨t1, ht1, h⟩ := bindS h
  obtain ⟨t2, ht2, h⟩ := bindS h
  refine ex_cons (ss_par 7 8 sc__law_times.nd rfl rfl (by decide) rfl rfl (fun X hX => (sw_env (env' := env0 (defScope s__law_times)) hX.sc _ _).trans rfl) (ea_cons (fun _ _ _ p q => pa_cons p q) (ee_sub (ee_mulO (ee_var 1 rfl (Or.inl rfl) rfl) (ee_var 4 rfl (Or.inl rfl) rfl) ht1) (ee_mulO (ee_var 2 rfl (Or.inl rfl) rfl) (ee_var 3 rfl (Or.inl rfl) rfl) ht2)) (ea_cons (fun _ _ _ p q => pa_cons p q) (ee_add (ee_var 1 rfl (Or.inl rfl) rfl) (ee_var 4 rfl (Or.inl rfl) rfl)) ea_nil)) rfl rfl) ?_
  show Ex _ _ [.dat (e_t2t2t2iit2iit2ii v_move), .dat (.int v_move.1.1.1), .dat (.int v_move.1.1.2), .dat (.int v_move.1.2.1), .dat (.int v_move.1.2.2), .dat (.int v_move.2.1), .dat (.int v_move.2.2), .dat (.int (t1 - t2)), .dat (.int (v_move.1.1.1 + v_move.1.2.2))] _ _
  obtain ⟨t3, ht3, h⟩ := bindS h
  rcases boolCases t3 with hc4 | hc4
  · have h := iteT' hc4 h
    refine ex_ifT (et_eqO (nobehind _ (by decide) (by decide)) (ee_tup (ea_cons (fun _ _ _ p q => pa_cons p q) (ee_var 1 rfl (Or.inl rfl) rfl) (ea_cons (fun _ _ _ p q => pa_cons p q) (ee_var 2 rfl (Or.inl rfl) rfl) (ea_cons (fun _ _ _ p q => pa_cons p q) (ee_var 3 rfl (Or.inl rfl) rfl) (ea_cons (fun _ _ _ p q => pa_cons p q) (ee_var 4 rfl (Or.inl rfl) rfl) ea_nil)))) rfl (lnOk 4 rfl (by decide))) (ee_tup (ea_cons (fun _ _ _ p q => pa_cons p q) ee_int (ea_cons (fun _ _ _ p q => pa_cons p q) ee_int (ea_cons (fun _ _ _ p q => pa_cons p q) ee_int (ea_cons (fun _ _ _ p q => pa_cons p q) ee_int ea_nil)))) rfl (lnOk 4 rfl (by decide))) rfl rfl ht3) hc4 ?_
    obtain ⟨t5, ht5, h⟩ := bindS h
    obtain rfl := someS h
    exact ex_out (ss_ret (ee_ifV (fun d : D => d) (et_eqO (nobehind _ (by decide) (by decide)) (ee_tup (ea_cons (fun _ _ _ p q => pa_cons p q) (ee_var 5 rfl (Or.inl rfl) rfl) (ea_cons (fun _ _ _ p q => pa_cons p q) (ee_var 6 rfl (Or.inl rfl) rfl) ea_nil)) rfl (lnOk 2 rfl (by decide))) (ee_tup (ea_cons (fun _ _ _ p q => pa_cons p q) ee_int (ea_cons (fun _ _ _ p q => pa_cons p q) ee_int ea_nil)) rfl (lnOk 2 rfl (by decide))) rfl rfl ht5) (fun _ => ee_int) (fun _ => ee_none))) rfl fin_dat
  · have h := iteF' hc4 h
    refine ex_ifF0 (et_eqO (nobehind _ (by decide) (by decide)) (ee_tup (ea_cons (fun _ _ _ p q => pa_cons p q) (ee_var 1 rfl (Or.inl rfl) rfl) (ea_cons (fun _ _ _ p q => pa_cons p q) (ee_var 2 rfl (Or.inl rfl) rfl) (ea_cons (fun _ _ _ p q => pa_cons p q) (ee_var 3 rfl (Or.inl rfl) rfl) (ea_cons (fun _ _ _ p q => pa_cons p q) (ee_var 4 rfl (Or.inl rfl) rfl) ea_nil)))) rfl (lnOk 4 rfl (by decide))) (ee_tup (ea_cons (fun _ _ _ p q => pa_cons p q) ee_int (ea_cons (fun _ _ _ p q => pa_cons p q) ee_int (ea_cons (fun _ _ _ p q => pa_cons p q) ee_int (ea_cons (fun _ _ _ p q => pa_cons p q) ee_int ea_nil)))) rfl (lnOk 4 rfl (by decide))) rfl rfl ht3) hc4 ?_
    rcases boolCases (decide ((t1 - t2) = (-1))) with hc6 | hc6
    · have h := iteT' hc6 h
      refine ex_ifT (et_eqI (nobehind _ (by decide) (by decide)) (ee_var 7 rfl (Or.inl rfl) rfl) (ee_neg ee_int)) hc6 ?_
      obtain ⟨t13, ht13, h⟩ := bindS h
      obtain rfl := someS h
      exact ex_out (ss_ret (ee_ifV (fun d : D => d) (et_w (ew_andO (et_eqI (nobehind _ (by decide) (by decide)) (ee_var 8 rfl (Or.inl rfl) rfl) ee_int) ht13 (fun _ g12 => by obtain ⟨t7, ht7, g12⟩ := bindS g12; obtain ⟨t8, ht8, g12⟩ := bindS g12; obtain ⟨t9, ht9, g12⟩ := bindS g12; obtain ⟨t10, ht10, g12⟩ := bindS g12; obtain ⟨t11, ht11, g12⟩ := bindS g12; obtain rfl := someS g12; exact (ew_and1 (et_eqO (nobehind _ (by decide) (by decide)) (ee_tup (ea_cons (fun _ _ _ p q => pa_cons p q) (ee_add (ee_mulO (ee_add (ee_var 1 rfl (Or.inl rfl) rfl) ee_int) (ee_var 5 rfl (Or.inl rfl) rfl) ht7) (ee_mulO (ee_var 2 rfl (Or.inl rfl) rfl) (ee_var 6 rfl (Or.inl rfl) rfl) ht8)) (ea_cons (fun _ _ _ p q => pa_cons p q) (ee_add (ee_mulO (ee_var 3 rfl (Or.inl rfl) rfl) (ee_var 5 rfl (Or.inl rfl) rfl) ht9) (ee_mulO (ee_add (ee_var 4 rfl (Or.inl rfl) rfl) ee_int) (ee_var 6 rfl (Or.inl rfl) rfl) ht10)) ea_nil)) rfl (lnOk 2 rfl (by decide))) (ee_tup (ea_cons (fun _ _ _ p q => pa_cons p q) ee_int (ea_cons (fun _ _ _ p q => pa_cons p q) ee_int ea_nil)) rfl (lnOk 2 rfl (by decide))) rfl rfl ht11))))) (fun _ => ee_int) (fun _ => ee_none))) rfl fin_dat
    · have h := iteF' hc6 h
      refine ex_ifF0 (et_eqI (nobehind _ (by decide) (by decide)) (ee_var 7 rfl (Or.inl rfl) rfl) (ee_neg ee_int)) hc6 ?_
      obtain ⟨t14, ht14, h⟩ := bindS h
      rcases boolCases t14 with hc15 | hc15
      · have h := iteT' hc15 h
        refine ex_ifT (et_eqO (nobehind _ (by decide) (by decide)) (ee_tup (ea_cons (fun _ _ _ p q => pa_cons p q) (ee_var 1 rfl (Or.inl rfl) rfl) (ea_cons (fun _ _ _ p q => pa_cons p q) (ee_var 2 rfl (Or.inl rfl) rfl) (ea_cons (fun _ _ _ p q => pa_cons p q) (ee_var 3 rfl (Or.inl rfl) rfl) (ea_cons (fun _ _ _ p q => pa_cons p q) (ee_var 4 rfl (Or.inl rfl) rfl) ea_nil)))) rfl (lnOk 4 rfl (by decide))) (ee_tup (ea_cons (fun _ _ _ p q => pa_cons p q) (ee_neg ee_int) (ea_cons (fun _ _ _ p q => pa_cons p q) ee_int (ea_cons (fun _ _ _ p q => pa_cons p q) ee_int (ea_cons (fun _ _ _ p q => pa_cons p q) (ee_neg ee_int) ea_nil)))) rfl (lnOk 4 rfl (by decide))) rfl rfl ht14) hc15 ?_
        obtain rfl := someS h
        exact ex_out (ss_ret ee_int) rfl fin_dat
      · have h := iteF' hc15 h
        refine ex_ifF0 (et_eqO (nobehind _ (by decide) (by decide)) (ee_tup (ea_cons (fun _ _ _ p q => pa_cons p q) (ee_var 1 rfl (Or.inl rfl) rfl) (ea_cons (fun _ _ _ p q => pa_cons p q) (ee_var 2 rfl (Or.inl rfl) rfl) (ea_cons (fun _ _ _ p q => pa_cons p q) (ee_var 3 rfl (Or.inl rfl) rfl) (ea_cons (fun _ _ _ p q => pa_cons p q) (ee_var 4 rfl (Or.inl rfl) rfl) ea_nil)))) rfl (lnOk 4 rfl (by decide))) (ee_tup (ea_cons (fun _ _ _ p q => pa_cons p q) (ee_neg ee_int) (ea_cons (fun _ _ _ p q => pa_cons p q) ee_int (ea_cons (fun _ _ _ p q => pa_cons p q) ee_int (ea_cons (fun _ _ _ p q => pa_cons p q) (ee_neg ee_int) ea_nil)))) rfl (lnOk 4 rfl (by decide))) rfl rfl ht14) hc15 ?_
        obtain ⟨t17, ht17, h⟩ := bindS h
        obtain rfl := someS h
        exact ex_out (ss_ret (ee_ifO (fun d : D => d) (et_inI (ns := [(-1), 0, 1]) rfl (ee_var 8 rfl (Or.inl rfl) rfl) (ee_is (ee_tup (ea_cons (fun _ _ _ p q => pa_cons p q) (ee_neg ee_int) (ea_cons (fun _ _ _ p q => pa_cons p q) ee_int (ea_cons (fun _ _ _ p q => pa_cons p q) ee_int ea_nil))) rfl (lnOk 3 rfl (by decide))) (by rfl))) ht17 (fun _ g18 => by obtain ⟨t16, ht16, g18⟩ := bindS g18; obtain rfl := someS g18; exact (ee_dsub (kvs := ([(-1, 3), (0, 4), (1, 6)] : List (Int × Int))) (eps_cons (eep_neg eep_int) eep_int (eps_cons eep_int eep_int (eps_cons eep_int eep_int eps_nil))) (eep_var 8 rfl (Or.inl rfl) rfl) ht16 (by decide) rfl rfl (by decide) (by decide) (fun _ _ => rfl))) (fun _ g19 => by obtain rfl := someS g19; exact ee_none))) rfl fin_dat

def s__law_again_right : Stmt := topS 50
def nm__law_again_right : List Str := ["dice", "rows", "move", "turn", "steps", "told", "here", "place", "gone"]
theorem sc__law_again_right : FnScope nm__law_again_right ["dice"] (defScope s__law_again_right) := ⟨rfl, rfl, rfl, by decide +kernel, rfl, by decide +kernel, by decide +kernel⟩
def m__law_again_right (d : Dice)  : Option (Bool × Dice) := (m__law_one_of d ([((0, (-1)), (1, 0)), ((0, (-1)), (1, 1)), ((0, (-1)), (1, (-1))), (((-1), 0), (0, (-1))), ((1, 0), (0, (-1))), ((0, 1), (1, 0)), ((1, 1), (0, 1)), ((2, 1), (1, 1)), ((1, 0), (0, 1))] : List ((Int × Int) × (Int × Int)))).bind fun p1 => (m__law_roll p1.2 3).bind fun p2 => (m__law_roll p2.2 3).bind fun p3 => (m__law_roll p3.2 4).bind fun p4 => (rgO p4.1).bind fun t5 => (szO t5).bind fun t6 => (mapS (fun (x7 : Int) (d8 : Dice) => (modO x7 2).bind fun t11 => (m__law_roll d8 9).bind fun p12 => (m__law_roll p12.2 5).bind fun p13 => (m__law_roll p13.2 5).bind fun p14 => (m__law_step t11 (p12.1 - 4) (p13.1, (0 - p14.1))).bind fun t15 => some (t15, p14.2)) t5 p4.2).bind fun p16 => (m__law_back p16.1).bind fun t17 => (catO (t17 : List (((Int × Int) × (Int × Int)) × (Int × Int))) [(p1.1, ((p2.1 - 1), (p3.1 - 1)))]).bind fun t18 => (catO (t18 : List (((Int × Int) × (Int × Int)) × (Int × Int))) p16.1).bind fun t19 => (m__law_made t19).bind fun t20 => (m__law_still ).bind fun t21 => (m__law_roll p16.2 9).bind fun p22 => (m__law_roll p22.2 9).bind fun p23 => (rg2O 1 13).bind fun t24 => (forL (fun (x26 : Int) (s25 : (((Int × Int) × (Int × Int)) × (Int × Int)) × (List (Int × Int × Int)) × D) => ((m_led_behind s25.1 t20).bind fun t29 => (m_led t20 s25.2.1).bind fun t30 => (m_led t29 [(p22.1, (0 - p23.1), 1)]).bind fun t31 => (eqO (e_ut3iii t31) (e_ut3iii t30)).bind fun t32 => if (!t32) = true then (some (.ret (false, p23.2))) else ((if (isN s25.2.2) = true then ((m__law_still ).bind fun t34 => (eqO (e_t2t2t2iit2iit2ii t29) (e_t2t2t2iit2iit2ii t34)).bind fun t35 => some t35) else some false).bind fun t37 => some (.go (t29, t30, (if t37 = true then (.int x26) else s25.2.2)))) : Option (Lo ((((Int × Int) × (Int × Int)) × (Int × Int)) × (List (Int × Int × Int)) × D) (Bool × Dice)))) t24 (t21, [(p22.1, (0 - p23.1), 1)], .none)).bind fun o39 => match o39 with | .go s28 => ((m__law_times t20).bind fun t40 => (eqO s28.2.2 t40).bind fun t41 => some (t41, p23.2)) | .brk s28 => ((m__law_times t20).bind fun t40 => (eqO s28.2.2 t40).bind fun t41 => some (t41, p23.2)) | .ret b38 => (some b38)
def A__law_again_right : List Rs → Dice → Rs → Dice → Prop := fun args d r d2 => args = [] ∧ ∃ v : Bool × Dice, m__law_again_right d = some v ∧ r = .dat (.bool v.1) ∧ d2 = v.2
abbrev R__law_again_right : Rel := RelD 1 A__law_again_right
theorem kn__law_again_right (T : Txt K mg) {f : Addr} {fd : FuncData} (Fu : Fun K "_law_again_right" "_law_again_right" s__law_again_right f fd) (hmf : mg "_law_again_right" = some (.ref f)) (g__law_one_of : Kn P w K mg base 2 "_law_one_of" R__law_one_of) (g__law_roll : Kn P w K mg base 1 "_law_roll" R__law_roll) (g__law_step : Kn P w K mg base 1 "_law_step" R__law_step) (g__law_made : Kn P w K mg base 7 "_law_made" R__law_made) (g__law_back : Kn P w K mg base 1 "_law_back" R__law_back) (g__law_still : Kn P w K mg base 1 "_law_still" R__law_still) (g_led_behind : Kn P w K mg base 6 "led_behind" R_led_behind) (g_led : Kn P w K mg base 6 "led" R_led) (g__law_times : Kn P w K mg base 1 "_law_times" R__law_times) : Kn P w K mg base 8 "_law_again_right" R__law_again_right := by
  have hb := Fu.binds (ps := ["dice"]) fun _ _ _ _ _ _ us hl => match us, hl with | [_], _ => rfl
  refine kn_of (kk := 7) Fu sc__law_again_right hb hmf rfl (by decide) relD_len ?_
  rintro rs ms r ms' ⟨mc, k, d, d', tl, args, hkm, rfl, hnn, rfl, rfl, rfl, v, h, rfl, rfl⟩
  show Ex _ _ [.mu k, .un, .un, .un, .un, .un, .un, .un, .un] (MD mc k d ++ tl) (fun o => Fin (MD mc k v.2 ++ tl) o (.dat (.bool v.1)))
  unfold m__law_again_right at h
  show Ex _ _ [.mu k, .un, .un, .un, .un, .un, .un, .un, .un] _ _
  obtain ⟨p1, hp1, h⟩ := bindS h
  refine ex_cons (ss_set 1 sc__law_again_right.nd rfl (Or.inl rfl) (.inl rfl) (fun _ => rfl) (ee_callD (r := .dat (e_t2t2iit2ii p1.1)) (d' := p1.2) hkm g__law_one_of (Nat.le_of_ble_eq_true rfl) (by rfl) rfl (ea_cons (fun _ _ _ p q => pa_cons p q) (ee_mu 0 rfl (Or.inr (Or.inl rfl)) rfl) (ea_cons (fun _ _ _ p q => pa_cons p q) (ee_lst (ea_cons (fun _ _ _ p q => pa_cons p q) (ee_tup (ea_cons (fun _ _ _ p q => pa_cons p q) (ee_tup (ea_cons (fun _ _ _ p q => pa_cons p q) ee_int (ea_cons (fun _ _ _ p q => pa_cons p q) (ee_neg ee_int) ea_nil)) rfl (lnOk 2 rfl (by decide))) (ea_cons (fun _ _ _ p q => pa_cons p q) (ee_tup (ea_cons (fun _ _ _ p q => pa_cons p q) ee_int (ea_cons (fun _ _ _ p q => pa_cons p q) ee_int ea_nil)) rfl (lnOk 2 rfl (by decide))) ea_nil)) rfl (lnOk 2 rfl (by decide))) (ea_cons (fun _ _ _ p q => pa_cons p q) (ee_tup (ea_cons (fun _ _ _ p q => pa_cons p q) (ee_tup (ea_cons (fun _ _ _ p q => pa_cons p q) ee_int (ea_cons (fun _ _ _ p q => pa_cons p q) (ee_neg ee_int) ea_nil)) rfl (lnOk 2 rfl (by decide))) (ea_cons (fun _ _ _ p q => pa_cons p q) (ee_tup (ea_cons (fun _ _ _ p q => pa_cons p q) ee_int (ea_cons (fun _ _ _ p q => pa_cons p q) ee_int ea_nil)) rfl (lnOk 2 rfl (by decide))) ea_nil)) rfl (lnOk 2 rfl (by decide))) (ea_cons (fun _ _ _ p q => pa_cons p q) (ee_tup (ea_cons (fun _ _ _ p q => pa_cons p q) (ee_tup (ea_cons (fun _ _ _ p q => pa_cons p q) ee_int (ea_cons (fun _ _ _ p q => pa_cons p q) (ee_neg ee_int) ea_nil)) rfl (lnOk 2 rfl (by decide))) (ea_cons (fun _ _ _ p q => pa_cons p q) (ee_tup (ea_cons (fun _ _ _ p q => pa_cons p q) ee_int (ea_cons (fun _ _ _ p q => pa_cons p q) (ee_neg ee_int) ea_nil)) rfl (lnOk 2 rfl (by decide))) ea_nil)) rfl (lnOk 2 rfl (by decide))) (ea_cons (fun _ _ _ p q => pa_cons p q) (ee_tup (ea_cons (fun _ _ _ p q => pa_cons p q) (ee_tup (ea_cons (fun _ _ _ p q => pa_cons p q) (ee_neg ee_int) (ea_cons (fun _ _ _ p q => pa_cons p q) ee_int ea_nil)) rfl (lnOk 2 rfl (by decide))) (ea_cons (fun _ _ _ p q => pa_cons p q) (ee_tup (ea_cons (fun _ _ _ p q => pa_cons p q) ee_int (ea_cons (fun _ _ _ p q => pa_cons p q) (ee_neg ee_int) ea_nil)) rfl (lnOk 2 rfl (by decide))) ea_nil)) rfl (lnOk 2 rfl (by decide))) (ea_cons (fun _ _ _ p q => pa_cons p q) (ee_tup (ea_cons (fun _ _ _ p q => pa_cons p q) (ee_tup (ea_cons (fun _ _ _ p q => pa_cons p q) ee_int (ea_cons (fun _ _ _ p q => pa_cons p q) ee_int ea_nil)) rfl (lnOk 2 rfl (by decide))) (ea_cons (fun _ _ _ p q => pa_cons p q) (ee_tup (ea_cons (fun _ _ _ p q => pa_cons p q) ee_int (ea_cons (fun _ _ _ p q => pa_cons p q) (ee_neg ee_int) ea_nil)) rfl (lnOk 2 rfl (by decide))) ea_nil)) rfl (lnOk 2 rfl (by decide))) (ea_cons (fun _ _ _ p q => pa_cons p q) (ee_tup (ea_cons (fun _ _ _ p q => pa_cons p q) (ee_tup (ea_cons (fun _ _ _ p q => pa_cons p q) ee_int (ea_cons (fun _ _ _ p q => pa_cons p q) ee_int ea_nil)) rfl (lnOk 2 rfl (by decide))) (ea_cons (fun _ _ _ p q => pa_cons p q) (ee_tup (ea_cons (fun _ _ _ p q => pa_cons p q) ee_int (ea_cons (fun _ _ _ p q => pa_cons p q) ee_int ea_nil)) rfl (lnOk 2 rfl (by decide))) ea_nil)) rfl (lnOk 2 rfl (by decide))) (ea_cons (fun _ _ _ p q => pa_cons p q) (ee_tup (ea_cons (fun _ _ _ p q => pa_cons p q) (ee_tup (ea_cons (fun _ _ _ p q => pa_cons p q) ee_int (ea_cons (fun _ _ _ p q => pa_cons p q) ee_int ea_nil)) rfl (lnOk 2 rfl (by decide))) (ea_cons (fun _ _ _ p q => pa_cons p q) (ee_tup (ea_cons (fun _ _ _ p q => pa_cons p q) ee_int (ea_cons (fun _ _ _ p q => pa_cons p q) ee_int ea_nil)) rfl (lnOk 2 rfl (by decide))) ea_nil)) rfl (lnOk 2 rfl (by decide))) (ea_cons (fun _ _ _ p q => pa_cons p q) (ee_tup (ea_cons (fun _ _ _ p q => pa_cons p q) (ee_tup (ea_cons (fun _ _ _ p q => pa_cons p q) ee_int (ea_cons (fun _ _ _ p q => pa_cons p q) ee_int ea_nil)) rfl (lnOk 2 rfl (by decide))) (ea_cons (fun _ _ _ p q => pa_cons p q) (ee_tup (ea_cons (fun _ _ _ p q => pa_cons p q) ee_int (ea_cons (fun _ _ _ p q => pa_cons p q) ee_int ea_nil)) rfl (lnOk 2 rfl (by decide))) ea_nil)) rfl (lnOk 2 rfl (by decide))) (ea_cons (fun _ _ _ p q => pa_cons p q) (ee_tup (ea_cons (fun _ _ _ p q => pa_cons p q) (ee_tup (ea_cons (fun _ _ _ p q => pa_cons p q) ee_int (ea_cons (fun _ _ _ p q => pa_cons p q) ee_int ea_nil)) rfl (lnOk 2 rfl (by decide))) (ea_cons (fun _ _ _ p q => pa_cons p q) (ee_tup (ea_cons (fun _ _ _ p q => pa_cons p q) ee_int (ea_cons (fun _ _ _ p q => pa_cons p q) ee_int ea_nil)) rfl (lnOk 2 rfl (by decide))) ea_nil)) rfl (lnOk 2 rfl (by decide))) ea_nil))))))))) rfl (lnOk 9 rfl (by decide))) ea_nil)) (one_of_A e_t2t2iit2ii ([((0, (-1)), (1, 0)), ((0, (-1)), (1, 1)), ((0, (-1)), (1, (-1))), (((-1), 0), (0, (-1))), ((1, 0), (0, (-1))), ((0, 1), (1, 0)), ((1, 1), (0, 1)), ((2, 1), (1, 1)), ((1, 0), (0, 1))] : List ((Int × Int) × (Int × Int))) hp1) (mu_mu (.inr tch0) (mu_dat mu_nil))) rfl) ?_
  show Ex _ _ [.mu k, .dat (e_t2t2iit2ii p1.1), .un, .un, .un, .un, .un, .un, .un] _ _
  obtain ⟨p2, hp2, h⟩ := bindS h
  obtain ⟨p3, hp3, h⟩ := bindS h
  refine ex_cons (ss_set 2 sc__law_again_right.nd rfl (Or.inl rfl) (.inl rfl) (fun _ => rfl) (ee_tup (ea_cons (fun _ _ _ p q => pa_cons p q) (ee_var 1 rfl (Or.inl rfl) rfl) (ea_cons (fun _ _ _ p q => pa_cons p q) (ee_tup (ea_cons (fun _ _ _ p q => pa_cons p q) (ee_sub (ee_callD (r := .dat (.int p2.1)) (d' := p2.2) hkm g__law_roll (Nat.le_of_ble_eq_true rfl) (by rfl) rfl (ea_cons (fun _ _ _ p q => pa_cons p q) (ee_mu 0 rfl (Or.inr (Or.inl rfl)) rfl) (ea_cons (fun _ _ _ p q => pa_cons p q) ee_int ea_nil)) ⟨3, rfl, p2, hp2, rfl, rfl⟩ (mu_mu (.inr tch0) (mu_dat mu_nil))) ee_int) (ea_cons (fun _ _ _ p q => pa_cons p q) (ee_sub (ee_callD (r := .dat (.int p3.1)) (d' := p3.2) hkm g__law_roll (Nat.le_of_ble_eq_true rfl) (by rfl) rfl (ea_cons (fun _ _ _ p q => pa_cons p q) (ee_mu 0 rfl (Or.inr (Or.inl rfl)) rfl) (ea_cons (fun _ _ _ p q => pa_cons p q) ee_int ea_nil)) ⟨3, rfl, p3, hp3, rfl, rfl⟩ (mu_mu (.inr tch0) (mu_dat mu_nil))) ee_int) ea_nil)) rfl (lnOk 2 rfl (by decide))) ea_nil)) rfl (lnOk 2 rfl (by decide))) rfl) ?_
  show Ex _ _ [.mu k, .dat (e_t2t2iit2ii p1.1), .dat (e_t2t2t2iit2iit2ii (p1.1, ((p2.1 - 1), (p3.1 - 1)))), .un, .un, .un, .un, .un, .un] _ _
  obtain ⟨p4, hp4, h⟩ := bindS h
  obtain ⟨t5, ht5, h⟩ := bindS h
  obtain ⟨t6, ht6, h⟩ := bindS h
  obtain ⟨p16, hp16, h⟩ := bindS h
  refine ex_cons (ss_lcS (tl := tl) 4 [("turn", 3)] PyData.int e_t2t2t2iit2iit2ii t5 _ sc__law_again_right.nd rfl rfl (fun X hX => (sp_env (env' := env0 (defScope s__law_again_right)) hX.sc _ _ _).trans rfl) (blkOk_by (N := nm__law_again_right) (sc := defScope s__law_again_right) (by decide +kernel)) (fun _ _ => rfl) (it_rngO T.range (by rfl) (fun X _ h1 h2 h3 => pi_range1 h2 h3 h1) (ea_cons (fun _ _ _ p q => pa_cons p q) (ee_callD (r := .dat (.int p4.1)) (d' := p4.2) hkm g__law_roll (Nat.le_of_ble_eq_true rfl) (by rfl) rfl (ea_cons (fun _ _ _ p q => pa_cons p q) (ee_mu 0 rfl (Or.inr (Or.inl rfl)) rfl) (ea_cons (fun _ _ _ p q => pa_cons p q) ee_int ea_nil)) ⟨4, rfl, p4, hp4, rfl, rfl⟩ (mu_mu (.inr tch0) (mu_dat mu_nil))) ea_nil) ht5) (fun _ _ => trivial) (by first | exact Nat.le_refl _ | (simp only [List.length_append, MD_len, M2_len, List.length_cons, List.length_nil, Sx.blk]; omega)) (fun x7 _ d8 y10 ex g9 => by obtain ⟨t11, ht11, g9⟩ := bindS g9; obtain ⟨p12, hp12, g9⟩ := bindS g9; obtain ⟨p13, hp13, g9⟩ := bindS g9; obtain ⟨p14, hp14, g9⟩ := bindS g9; obtain ⟨t15, ht15, g9⟩ := bindS g9; obtain rfl := someS g9; exact ⟨_, _, by decide, (eg_name 3 sc__law_again_right.nd rfl (Or.inl rfl) (.inr rfl)), _, (ee_call g__law_step (Nat.le_of_ble_eq_true rfl) (by rfl) (ea_cons (fun _ _ _ p q => pa_cons p q) (ee_modO (ee_var 3 rfl (Or.inl rfl) rfl) ee_int ht11) (ea_cons (fun _ _ _ p q => pa_cons p q) (ee_sub (ee_callD (r := .dat (.int p12.1)) (d' := p12.2) hkm g__law_roll (Nat.le_of_ble_eq_true rfl) (by rfl) rfl (ea_cons (fun _ _ _ p q => pa_cons p q) (ee_mu 0 rfl (Or.inr (Or.inl rfl)) rfl) (ea_cons (fun _ _ _ p q => pa_cons p q) ee_int ea_nil)) ⟨9, rfl, p12, hp12, rfl, rfl⟩ (mu_mu (.inr tch0) (mu_dat mu_nil))) ee_int) (ea_cons (fun _ _ _ p q => pa_cons p q) (ee_tup (ea_cons (fun _ _ _ p q => pa_cons p q) (ee_callD (r := .dat (.int p13.1)) (d' := p13.2) hkm g__law_roll (Nat.le_of_ble_eq_true rfl) (by rfl) rfl (ea_cons (fun _ _ _ p q => pa_cons p q) (ee_mu 0 rfl (Or.inr (Or.inl rfl)) rfl) (ea_cons (fun _ _ _ p q => pa_cons p q) ee_int ea_nil)) ⟨5, rfl, p13, hp13, rfl, rfl⟩ (mu_mu (.inr tch0) (mu_dat mu_nil))) (ea_cons (fun _ _ _ p q => pa_cons p q) (ee_sub ee_int (ee_callD (r := .dat (.int p14.1)) (d' := p14.2) hkm g__law_roll (Nat.le_of_ble_eq_true rfl) (by rfl) rfl (ea_cons (fun _ _ _ p q => pa_cons p q) (ee_mu 0 rfl (Or.inr (Or.inl rfl)) rfl) (ea_cons (fun _ _ _ p q => pa_cons p q) ee_int ea_nil)) ⟨5, rfl, p14, hp14, rfl, rfl⟩ (mu_mu (.inr tch0) (mu_dat mu_nil)))) ea_nil)) rfl (lnOk 2 rfl (by decide))) ea_nil))) ⟨t11, (p12.1 - 4), (p13.1, (0 - p14.1)), rfl, rfl, t15, ht15, rfl⟩ (mu_dat (mu_dat (mu_dat mu_nil)))), rfl⟩) hp16 (szO_some ht6).1) ?_
  show Ex _ _ [.mu k, .dat (e_t2t2iit2ii p1.1), .dat (e_t2t2t2iit2iit2ii (p1.1, ((p2.1 - 1), (p3.1 - 1)))), .un, .dat (e_lt2t2t2iit2iit2ii p16.1), .un, .un, .un, .un] _ _
  obtain ⟨t17, ht17, h⟩ := bindS h
  obtain ⟨t18, ht18, h⟩ := bindS h
  obtain ⟨t19, ht19, h⟩ := bindS h
  obtain ⟨t20, ht20, h⟩ := bindS h
  refine ex_cons (ss_set 2 sc__law_again_right.nd rfl (Or.inl rfl) (.inl rfl) (fun _ => rfl) (ee_call g__law_made (Nat.le_of_ble_eq_true rfl) (by rfl) (ea_cons (fun _ _ _ p q => pa_cons p q) (ee_cat (xs := t18) (ys := p16.1) e_t2t2t2iit2iit2ii (ee_cat (xs := t17) (ys := [(p1.1, ((p2.1 - 1), (p3.1 - 1)))]) e_t2t2t2iit2iit2ii (ee_call g__law_back (Nat.le_of_ble_eq_true rfl) (by rfl) (ea_cons (fun _ _ _ p q => pa_cons p q) (ee_var 4 rfl (Or.inl rfl) rfl) ea_nil) ⟨p16.1, rfl, rfl, t17, ht17, rfl⟩ (mu_dat mu_nil)) (ee_lst (ea_cons (fun _ _ _ p q => pa_cons p q) (ee_var 2 rfl (Or.inl rfl) rfl) ea_nil) rfl (lnOk 1 rfl (by decide))) rfl rfl ht18) (ee_var 4 rfl (Or.inl rfl) rfl) rfl rfl ht19) ea_nil) ⟨t19, rfl, rfl, t20, ht20, rfl⟩ (mu_dat mu_nil)) rfl) ?_
  show Ex _ _ [.mu k, .dat (e_t2t2iit2ii p1.1), .dat (e_t2t2t2iit2iit2ii t20), .un, .dat (e_lt2t2t2iit2iit2ii p16.1), .un, .un, .un, .un] _ _
  obtain ⟨t21, ht21, h⟩ := bindS h
  obtain ⟨p22, hp22, h⟩ := bindS h
  obtain ⟨p23, hp23, h⟩ := bindS h
  refine ex_cons (ss_par3 5 6 7 sc__law_again_right.nd rfl rfl rfl (by decide) (by decide) (by decide) rfl rfl rfl (fun X hX => (sw_env (env' := env0 (defScope s__law_again_right)) hX.sc _ _).trans rfl) (ea_cons (fun _ _ _ p q => pa_cons p q) ee_none (ea_cons (fun _ _ _ p q => pa_cons p q) (ee_call0 g__law_still (Nat.le_of_ble_eq_true rfl) (by rfl) ⟨rfl, rfl, t21, ht21, rfl⟩) (ea_cons (fun _ _ _ p q => pa_cons p q) (ee_tup (ea_cons (fun _ _ _ p q => pa_cons p q) (ee_tup (ea_cons (fun _ _ _ p q => pa_cons p q) (ee_callD (r := .dat (.int p22.1)) (d' := p22.2) hkm g__law_roll (Nat.le_of_ble_eq_true rfl) (by rfl) rfl (ea_cons (fun _ _ _ p q => pa_cons p q) (ee_mu 0 rfl (Or.inr (Or.inl rfl)) rfl) (ea_cons (fun _ _ _ p q => pa_cons p q) ee_int ea_nil)) ⟨9, rfl, p22, hp22, rfl, rfl⟩ (mu_mu (.inr tch0) (mu_dat mu_nil))) (ea_cons (fun _ _ _ p q => pa_cons p q) (ee_sub ee_int (ee_callD (r := .dat (.int p23.1)) (d' := p23.2) hkm g__law_roll (Nat.le_of_ble_eq_true rfl) (by rfl) rfl (ea_cons (fun _ _ _ p q => pa_cons p q) (ee_mu 0 rfl (Or.inr (Or.inl rfl)) rfl) (ea_cons (fun _ _ _ p q => pa_cons p q) ee_int ea_nil)) ⟨9, rfl, p23, hp23, rfl, rfl⟩ (mu_mu (.inr tch0) (mu_dat mu_nil)))) (ea_cons (fun _ _ _ p q => pa_cons p q) ee_int ea_nil))) rfl (lnOk 3 rfl (by decide))) ea_nil) rfl (lnOk 1 rfl (by decide))) ea_nil))) rfl rfl rfl) ?_
  show Ex _ _ [.mu k, .dat (e_t2t2iit2ii p1.1), .dat (e_t2t2t2iit2iit2ii t20), .un, .dat (e_lt2t2t2iit2iit2ii p16.1), .dat .none, .dat (e_t2t2t2iit2iit2ii t21), .dat (e_ut3iii [(p22.1, (0 - p23.1), 1)]), .un] _ _
  refine ex_cons (ss_set 8 sc__law_again_right.nd rfl (Or.inl rfl) (.inl rfl) (fun _ => rfl) (ee_var 7 rfl (Or.inl rfl) rfl) rfl) ?_
  show Ex _ _ [.mu k, .dat (e_t2t2iit2ii p1.1), .dat (e_t2t2t2iit2iit2ii t20), .un, .dat (e_lt2t2t2iit2iit2ii p16.1), .dat .none, .dat (e_t2t2t2iit2iit2ii t21), .dat (e_ut3iii [(p22.1, (0 - p23.1), 1)]), .dat (e_ut3iii [(p22.1, (0 - p23.1), 1)])] _ _
  obtain ⟨t24, ht24, h⟩ := bindS h
  obtain ⟨o39, ho39, h⟩ := bindS h
  refine ex_loop (ss_for (s0 := (t21, [(p22.1, (0 - p23.1), 1)], .none)) (fun _ _ => rfl) hpn PyData.int _ _ (fun s25 : (((Int × Int) × (Int × Int)) × (Int × Int)) × (List (Int × Int × Int)) × D => [.mu k, .dat (e_t2t2iit2ii p1.1), .dat (e_t2t2t2iit2iit2ii t20), .un, .dat (e_lt2t2t2iit2iit2ii p16.1), .dat s25.2.2, .dat (e_t2t2t2iit2iit2ii s25.1), .dat (e_ut3iii [(p22.1, (0 - p23.1), 1)]), .dat (e_ut3iii s25.2.1)]) (fun s25 : (((Int × Int) × (Int × Int)) × (Int × Int)) × (List (Int × Int × Int)) × D => (MD mc k p23.2 ++ tl)) (fun b38 : Bool × Dice => Rs.dat (.bool b38.1)) (fun b38 : Bool × Dice => (MD mc k b38.2 ++ tl)) (mc.length + tl.length) (it_rng2O T.range (by rfl) (fun X _ h1 h2 h3 => pi_range2 h2 h3 h1) (ea_cons (fun _ _ _ p q => pa_cons p q) ee_int (ea_cons (fun _ _ _ p q => pa_cons p q) ee_int ea_nil)) ht24) (fun _ => trivial) (fun _ => MD_lenN) (.cons (.mu (by first | omega | (simp only [List.length_append, MD_len, M2_len, List.length_cons, List.length_nil, Sx.blk]; omega))) (.cons .dat (.cons .dat (.cons .un (.cons .dat (.cons .dat (.cons .dat (.cons .dat (.cons .dat .nil)))))))))
    (fun x26 _ s25 o h => ⟨_, _, (eg_name 3 sc__law_again_right.nd rfl (Or.inl rfl) (.inl rfl)), lo_of (fun _ => MD_lenN) MD_lenN (by
      show Ex _ _ [.mu k, .dat (e_t2t2iit2ii p1.1), .dat (e_t2t2t2iit2iit2ii t20), .dat (.int x26), .dat (e_lt2t2t2iit2iit2ii p16.1), .dat s25.2.2, .dat (e_t2t2t2iit2iit2ii s25.1), .dat (e_ut3iii [(p22.1, (0 - p23.1), 1)]), .dat (e_ut3iii s25.2.1)] _ _
      obtain ⟨t29, ht29, h⟩ := bindS h
      obtain ⟨t30, ht30, h⟩ := bindS h
      refine ex_cons (ss_par 6 8 sc__law_again_right.nd rfl rfl (by decide) rfl rfl (fun X hX => (sw_env (env' := env0 (defScope s__law_again_right)) hX.sc _ _).trans rfl) (ea_cons (fun _ _ _ p q => pa_cons p q) (ee_call g_led_behind (Nat.le_of_ble_eq_true rfl) (by rfl) (ea_cons (fun _ _ _ p q => pa_cons p q) (ee_var 6 rfl (Or.inl rfl) rfl) (ea_cons (fun _ _ _ p q => pa_cons p q) (ee_var 2 rfl (Or.inl rfl) rfl) ea_nil)) ⟨s25.1, t20, rfl, rfl, t29, ht29, rfl⟩ (mu_dat (mu_dat mu_nil))) (ea_cons (fun _ _ _ p q => pa_cons p q) (ee_call g_led (Nat.le_of_ble_eq_true rfl) (by rfl) (ea_cons (fun _ _ _ p q => pa_cons p q) (ee_var 2 rfl (Or.inl rfl) rfl) (ea_cons (fun _ _ _ p q => pa_cons p q) (ee_var 8 rfl (Or.inl rfl) rfl) ea_nil)) ⟨t20, s25.2.1, rfl, rfl, t30, ht30, rfl⟩ (mu_dat (mu_dat mu_nil))) ea_nil)) rfl rfl) ?_
      show Ex _ _ [.mu k, .dat (e_t2t2iit2ii p1.1), .dat (e_t2t2t2iit2iit2ii t20), .dat (.int x26), .dat (e_lt2t2t2iit2iit2ii p16.1), .dat s25.2.2, .dat (e_t2t2t2iit2iit2ii t29), .dat (e_ut3iii [(p22.1, (0 - p23.1), 1)]), .dat (e_ut3iii t30)] _ _
      obtain ⟨t31, ht31, h⟩ := bindS h
      obtain ⟨t32, ht32, h⟩ := bindS h
      rcases boolCases (!t32) with hc33 | hc33
      · have h := iteT' hc33 h
        refine ex_ifT (et_neO (nobehind _ (by decide) (by decide)) (ee_call g_led (Nat.le_of_ble_eq_true rfl) (by rfl) (ea_cons (fun _ _ _ p q => pa_cons p q) (ee_var 6 rfl (Or.inl rfl) rfl) (ea_cons (fun _ _ _ p q => pa_cons p q) (ee_var 7 rfl (Or.inl rfl) rfl) ea_nil)) ⟨t29, [(p22.1, (0 - p23.1), 1)], rfl, rfl, t31, ht31, rfl⟩ (mu_dat (mu_dat mu_nil))) (ee_var 8 rfl (Or.inl rfl) rfl) rfl rfl ht32) hc33 ?_
        obtain rfl := someS h
        exact ex_out (ss_ret ee_bool) rfl (by first | rfl | (simp only [thenEx]; rfl))
      · have h := iteF' hc33 h
        refine ex_ifF0 (et_neO (nobehind _ (by decide) (by decide)) (ee_call g_led (Nat.le_of_ble_eq_true rfl) (by rfl) (ea_cons (fun _ _ _ p q => pa_cons p q) (ee_var 6 rfl (Or.inl rfl) rfl) (ea_cons (fun _ _ _ p q => pa_cons p q) (ee_var 7 rfl (Or.inl rfl) rfl) ea_nil)) ⟨t29, [(p22.1, (0 - p23.1), 1)], rfl, rfl, t31, ht31, rfl⟩ (mu_dat (mu_dat mu_nil))) (ee_var 8 rfl (Or.inl rfl) rfl) rfl rfl ht32) hc33 ?_
        obtain ⟨t37, ht37, h⟩ := bindS h
        refine ex_cons (ss_set 5 sc__law_again_right.nd rfl (Or.inl rfl) (.inl rfl) (fun _ => rfl) (ee_ifV (fun d : D => d) (et_w (ew_andO (et_isN (nobehind _ (by decide) (by decide)) (ee_var 5 rfl (Or.inl rfl) rfl) ee_none) ht37 (fun _ g36 => by obtain ⟨t34, ht34, g36⟩ := bindS g36; obtain ⟨t35, ht35, g36⟩ := bindS g36; obtain rfl := someS g36; exact (ew_and1 (et_eqO (nobehind _ (by decide) (by decide)) (ee_var 6 rfl (Or.inl rfl) rfl) (ee_call0 g__law_still (Nat.le_of_ble_eq_true rfl) (by rfl) ⟨rfl, rfl, t34, ht34, rfl⟩) rfl rfl ht35))))) (fun _ => (ee_var 3 rfl (Or.inl rfl) rfl)) (fun _ => (ee_var 5 rfl (Or.inl rfl) rfl))) rfl) ?_
        obtain rfl := someS h
        exact ex_nil (turn_go (.cons (.mu (by first | omega | (simp only [List.length_append, MD_len, M2_len, List.length_cons, List.length_nil, Sx.blk]; omega))) (.cons .dat (.cons .dat (.cons .un (.cons .dat (.cons .dat (.cons .dat (.cons .dat (.cons .dat .nil))))))))))
    )⟩) ho39) (fun Fo39 => ?_)
  rcases o39 with s28 | s28 | b38
  · refine ex_cons Fo39 ?_
    show Ex _ _ [.mu k, .dat (e_t2t2iit2ii p1.1), .dat (e_t2t2t2iit2iit2ii t20), .un, .dat (e_lt2t2t2iit2iit2ii p16.1), .dat s28.2.2, .dat (e_t2t2t2iit2iit2ii s28.1), .dat (e_ut3iii [(p22.1, (0 - p23.1), 1)]), .dat (e_ut3iii s28.2.1)] _ _
    obtain ⟨t40, ht40, h⟩ := bindS h
    obtain ⟨t41, ht41, h⟩ := bindS h
    obtain rfl := someS h
    exact ex_out (ss_ret (ee_eqO (nobehind _ (by decide) (by decide)) (ee_var 5 rfl (Or.inl rfl) rfl) (ee_call g__law_times (Nat.le_of_ble_eq_true rfl) (by rfl) (ea_cons (fun _ _ _ p q => pa_cons p q) (ee_var 2 rfl (Or.inl rfl) rfl) ea_nil) ⟨t20, rfl, rfl, t40, ht40, rfl⟩ (mu_dat mu_nil)) rfl rfl ht41)) rfl fin_dat
  · refine ex_cons Fo39 ?_
    show Ex _ _ [.mu k, .dat (e_t2t2iit2ii p1.1), .dat (e_t2t2t2iit2iit2ii t20), .un, .dat (e_lt2t2t2iit2iit2ii p16.1), .dat s28.2.2, .dat (e_t2t2t2iit2iit2ii s28.1), .dat (e_ut3iii [(p22.1, (0 - p23.1), 1)]), .dat (e_ut3iii s28.2.1)] _ _
    obtain ⟨t40, ht40, h⟩ := bindS h
    obtain ⟨t41, ht41, h⟩ := bindS h
    obtain rfl := someS h
    exact ex_out (ss_ret (ee_eqO (nobehind _ (by decide) (by decide)) (ee_var 5 rfl (Or.inl rfl) rfl) (ee_call g__law_times (Nat.le_of_ble_eq_true rfl) (by rfl) (ea_cons (fun _ _ _ p q => pa_cons p q) (ee_var 2 rfl (Or.inl rfl) rfl) ea_nil) ⟨t20, rfl, rfl, t40, ht40, rfl⟩ (mu_dat mu_nil)) rfl rfl ht41)) rfl fin_dat
  · obtain rfl := someS h
    exact ex_out Fo39 rfl fin_dat

def s__law_common : Stmt := topS 41
def nm__law_common : List Str := ["one", "far"]
theorem sc__law_common : FnScope nm__law_common ["one", "far"] (defScope s__law_common) := ⟨rfl, rfl, rfl, by decide +kernel, rfl, by decide +kernel, by decide +kernel⟩
def m__law_common (v_one : Int) (v_far : Int) : Option (Int) := (whileS (fun s1 : Int × Int => some (decide (s1.2 ≠ 0))) (fun s1 : Int × Int => (modO s1.1 s1.2).bind fun t5 => some (s1.2, t5)) FUEL ((v_one.natAbs : Int), (v_far.natAbs : Int))).bind fun s3 => some s3.1
def R__law_common : Rel := fun rs ms r ms2 => ∃ (v_one : Int) (v_far : Int), rs = [.dat (.int v_one), .dat (.int v_far)] ∧ ms2 = ms ∧ ∃ v : Int, m__law_common v_one v_far = some v ∧ r = .dat (.int v)
theorem kn__law_common (T : Txt K mg) {f : Addr} {fd : FuncData} (Fu : Fun K "_law_common" "_law_common" s__law_common f fd) (hmf : mg "_law_common" = some (.ref f))  : Kn P w K mg base 1 "_law_common" R__law_common := by
  have hb := Fu.binds (ps := ["one", "far"]) fun _ _ _ _ _ _ us hl => match us, hl with | [_, _], _ => rfl
  refine kn_of (kk := 0) Fu sc__law_common hb hmf rfl (by decide) (by rintro rs ms0 r ms ⟨v_one, v_far, rfl, rfl, v, h, rfl⟩; exact ⟨rfl, rfl⟩) ?_
  rintro rs ms0 r ms ⟨v_one, v_far, rfl, rfl, v, h, rfl⟩
  show Ex _ _ [.dat (.int v_one), .dat (.int v_far)] ms (fun o => Fin ms o (.dat (.int v)))
  unfold m__law_common at h
  show Ex _ _ [.dat (.int v_one), .dat (.int v_far)] _ _
  refine ex_cons (ss_par 0 1 sc__law_common.nd rfl rfl (by decide) rfl rfl (fun X hX => (sw_env (env' := env0 (defScope s__law_common)) hX.sc _ _).trans rfl) (ea_cons (fun _ _ _ p q => pa_cons p q) (ee_abs T.abs (by rfl) (ea_cons (fun _ _ _ p q => pa_cons p q) (ee_var 0 rfl (Or.inl rfl) rfl) ea_nil)) (ea_cons (fun _ _ _ p q => pa_cons p q) (ee_abs T.abs (by rfl) (ea_cons (fun _ _ _ p q => pa_cons p q) (ee_var 1 rfl (Or.inl rfl) rfl) ea_nil)) ea_nil)) rfl rfl) ?_
  show Ex _ _ [.dat (.int (v_one.natAbs : Int)), .dat (.int (v_far.natAbs : Int))] _ _
  obtain ⟨s3, hs3, h⟩ := bindS h
  refine ex_cons (ss_whileS (s0 := ((v_one.natAbs : Int), (v_far.natAbs : Int))) _ _ (fun s1 : Int × Int => [.dat (.int s1.1), .dat (.int s1.2)]) (fun s1 : Int × Int => ms) (ms.length) _ rfl (fun _ => rfl) (.cons .dat (.cons .dat .nil))
    (fun s1 t4 h => by
      obtain rfl := someS h
      exact (et_neI (nobehind _ (by decide) (by decide)) (ee_var 1 rfl (Or.inl rfl) rfl) ee_int)
    ) (fun s1 s2 _ h => by
      show Ex _ _ [.dat (.int s1.1), .dat (.int s1.2)] _ _
      obtain ⟨t5, ht5, h⟩ := bindS h
      refine ex_cons (ss_par 0 1 sc__law_common.nd rfl rfl (by decide) rfl rfl (fun X hX => (sw_env (env' := env0 (defScope s__law_common)) hX.sc _ _).trans rfl) (ea_cons (fun _ _ _ p q => pa_cons p q) (ee_var 1 rfl (Or.inl rfl) rfl) (ea_cons (fun _ _ _ p q => pa_cons p q) (ee_modO (ee_var 0 rfl (Or.inl rfl) rfl) (ee_var 1 rfl (Or.inl rfl) rfl) ht5) ea_nil)) rfl rfl) ?_
      obtain rfl := someS h
      exact ex_nil (turn_go (.cons .dat (.cons .dat .nil)))
    ) hs3) ?_
  show Ex _ _ [.dat (.int s3.1), .dat (.int s3.2)] _ _
  obtain rfl := someS h
  exact ex_out (ss_ret (ee_var 0 rfl (Or.inl rfl) rfl)) rfl fin_dat

def s_whole_form : Stmt := topS 33
def nm_whole_form : List Str := ["points"]
theorem sc_whole_form : FnScope nm_whole_form ["points"] (defScope s_whole_form) := ⟨rfl, rfl, rfl, by decide +kernel, rfl, by decide +kernel, by decide +kernel⟩
def m_whole_form (v_points : (List (Int × Int × Int))) : Option ((List (List Int))) := (m_require_points v_points).bind fun t1 => (m_form_in v_points).bind fun t2 => some t2.1
def R_whole_form : Rel := fun rs ms r ms2 => ∃ (v_points : (List (Int × Int × Int))), rs = [.dat (e_ut3iii v_points)] ∧ ms2 = ms ∧ ∃ v : (List (List Int)), m_whole_form v_points = some v ∧ r = .dat (e_uui v)
theorem kn_whole_form (T : Txt K mg) {f : Addr} {fd : FuncData} (Fu : Fun K "whole_form" "whole_form" s_whole_form f fd) (hmf : mg "whole_form" = some (.ref f)) (g_require_points : Kn P w K mg base 3 "require_points" R_require_points) (g_form_in : Kn P w K mg base 3 "form_in" R_form_in) : Kn P w K mg base 4 "whole_form" R_whole_form := by
  have hb := Fu.binds (ps := ["points"]) fun _ _ _ _ _ _ us hl => match us, hl with | [_], _ => rfl
  refine kn_of (kk := 3) Fu sc_whole_form hb hmf rfl (by decide) (by rintro rs ms0 r ms ⟨v_points, rfl, rfl, v, h, rfl⟩; exact ⟨rfl, rfl⟩) ?_
  rintro rs ms0 r ms ⟨v_points, rfl, rfl, v, h, rfl⟩
  show Ex _ _ [.dat (e_ut3iii v_points)] ms (fun o => Fin ms o (.dat (e_uui v)))
  unfold m_whole_form at h
  show Ex _ _ [.dat (e_ut3iii v_points)] _ _
  obtain ⟨t1, ht1, h⟩ := bindS h
  refine ex_cons (ss_drop (fun _ => rfl) (ee_call g_require_points (Nat.le_of_ble_eq_true rfl) (by rfl) (ea_cons (fun _ _ _ p q => pa_cons p q) (ee_var 0 rfl (Or.inl rfl) rfl) ea_nil) ⟨v_points, rfl, rfl, t1, ht1, rfl⟩ (mu_dat mu_nil))) ?_
  obtain ⟨t2, ht2, h⟩ := bindS h
  obtain rfl := someS h
  exact ex_out (ss_ret (ee_ixT (fun X _ _ p q => pe_ix ix_tup p q (fun _ _ => rfl)) (ee_call g_form_in (Nat.le_of_ble_eq_true rfl) (by rfl) (ea_cons (fun _ _ _ p q => pa_cons p q) (ee_var 0 rfl (Or.inl rfl) rfl) ea_nil) ⟨v_points, rfl, rfl, t2, ht2, rfl⟩ (mu_dat mu_nil)) ee_int (by rfl))) rfl fin_dat

def s__law_pairs_right : Stmt := topS 51
def nm__law_pairs_right : List Str := ["dice", "rows", "many", "turn", "x", "y", "part", "times", "a", "b", "one", "first", "far", "second", "told"]
theorem sc__law_pairs_right : FnScope nm__law_pairs_right ["dice"] (defScope s__law_pairs_right) := ⟨rfl, rfl, rfl, by decide +kernel, rfl, by decide +kernel, by decide +kernel⟩
def m__law_pairs_right (d : Dice)  : Option (Bool × Dice) := (m__law_one_of d ([1, 10, 1000000000] : List Int)).bind fun p1 => (m__law_roll p1.2 p1.1).bind fun p2 => (rgO 2).bind fun t3 => (forS (fun (x5 : Int) (s4 : (List (((Int × Int × Int) × (Int × Int × Int)) × Int)) × Dice) => (m__law_roll s4.2 1000000).bind fun p8 => (m__law_roll p8.2 1000000).bind fun p9 => (eqO (e_t2ii ((p8.1 - 500000), (p9.1 - 500000))) (e_t2ii (0, 0))).bind fun t10 => (if (!t10) = true then ((m__law_common (p8.1 - 500000) (p9.1 - 500000)).bind fun t11 => some t11) else (some 1)).bind fun t12 => (m__law_one_of p9.2 ([(1 + p2.1), (1 + p2.1), ((1 + p2.1) + 1), 0] : List Int)).bind fun p15 => (m__law_roll p15.2 99).bind fun p16 => (m__law_roll p16.2 99).bind fun p17 => (divO (p8.1 - 500000) t12).bind fun t18 => (mulO p15.1 t18).bind fun t19 => (divO (p9.1 - 500000) t12).bind fun t20 => (mulO p15.1 t20).bind fun t21 => (eqO (e_t2ii ((p8.1 - 500000), (p9.1 - 500000))) (e_t2ii (0, 0))).bind fun t22 => (appO s4.1 (((p16.1, p17.1, 1), ((p16.1 + t19), (p17.1 + t21), 1)), (if (!t22) = true then p15.1 else 0))).bind fun t23 => some (t23, p17.2)) t3 ([], p2.2)).bind fun s7 => (asN2 s7.1).bind fun t24 => (m_same_paper [t24.1.1.1, t24.1.1.2] [t24.2.1.1, t24.2.1.2]).bind fun t25 => (m_whole_form [t24.1.1.1, t24.1.1.2]).bind fun t26 => (eqO (e_uui t26) (e_t2t1it1i (t24.1.2, 0))).bind fun t27 => (if (!t27) = true then some true else ((tupD t25).bind fun t28 => (ixO t28 0).bind fun t29 => (eqO t29 (.str (Str.ofString "move"))).bind fun t30 => (eqO (.bool t30) (.bool (decide (t24.1.2 = t24.2.2)))).bind fun t31 => (if (!t31) = true then some true else ((m_is_same_paper [t24.1.1.1, t24.1.1.2] [t24.2.1.1, t24.2.1.2] t25).bind fun t32 => some (!decide (t32 = true)))).bind fun t34 => some t34)).bind fun t36 => if t36 = true then (some (false, s7.2)) else ((tupD t25).bind fun t38 => (ixO t38 0).bind fun t39 => (eqO t39 (.str (Str.ofString "unlike"))).bind fun t40 => (if t40 = true then some true else ((tupD t25).bind fun t41 => (ixO t41 1).bind fun t42 => (u_d_t2t2t2iit2iit2ii t42).bind fun t43 => (m_led t43 [t24.1.1.1, t24.1.1.2]).bind fun t44 => (eqO (e_ut3iii t44) (e_t2t3iiit3iii t24.2.1)).bind fun t45 => some t45)).bind fun t46 => some (t46, s7.2))
def A__law_pairs_right : List Rs → Dice → Rs → Dice → Prop := fun args d r d2 => args = [] ∧ ∃ v : Bool × Dice, m__law_pairs_right d = some v ∧ r = .dat (.bool v.1) ∧ d2 = v.2
abbrev R__law_pairs_right : Rel := RelD 1 A__law_pairs_right
theorem kn__law_pairs_right (T : Txt K mg) {f : Addr} {fd : FuncData} (Fu : Fun K "_law_pairs_right" "_law_pairs_right" s__law_pairs_right f fd) (hmf : mg "_law_pairs_right" = some (.ref f)) (g__law_roll : Kn P w K mg base 1 "_law_roll" R__law_roll) (g__law_one_of : Kn P w K mg base 2 "_law_one_of" R__law_one_of) (g__law_common : Kn P w K mg base 1 "_law_common" R__law_common) (g_same_paper : Kn P w K mg base 5 "same_paper" R_same_paper) (g_whole_form : Kn P w K mg base 4 "whole_form" R_whole_form) (g_is_same_paper : Kn P w K mg base 5 "is_same_paper" R_is_same_paper) (g_led : Kn P w K mg base 6 "led" R_led) : Kn P w K mg base 7 "_law_pairs_right" R__law_pairs_right := by
  have hb := Fu.binds (ps := ["dice"]) fun _ _ _ _ _ _ us hl => match us, hl with | [_], _ => rfl
  refine kn_of (kk := 6) Fu sc__law_pairs_right hb hmf rfl (by decide) relD_len ?_
  rintro rs ms r ms' ⟨mc, k, d, d', tl, args, hkm, rfl, hnn, rfl, rfl, rfl, v, h, rfl, rfl⟩
  show Ex _ _ [.mu k, .un, .un, .un, .un, .un, .un, .un, .un, .un, .un, .un, .un, .un, .un] (MD mc k d ++ tl) (fun o => Fin (MD mc k v.2 ++ tl) o (.dat (.bool v.1)))
  unfold m__law_pairs_right at h
  show Ex _ _ [.mu k, .un, .un, .un, .un, .un, .un, .un, .un, .un, .un, .un, .un, .un, .un] _ _
  obtain ⟨p1, hp1, h⟩ := bindS h
  obtain ⟨p2, hp2, h⟩ := bindS h
  refine ex_cons (ss_is (ss_par_odE 1 2 sc__law_pairs_right.nd rfl rfl (by decide) rfl rfl (fun X hX => (sw_env (env' := env0 (defScope s__law_pairs_right)) hX.sc _ _).trans rfl) (fun X _ _ p q => pa_cons p (pa_cons q pa_nil)) (eep_lst eap_nil rfl (lnOk 0 rfl (by decide))) (ee_add ee_int (ee_callD (r := .dat (.int p2.1)) (d' := p2.2) hkm g__law_roll (Nat.le_of_ble_eq_true rfl) (by rfl) rfl (ea_cons (fun _ _ _ p q => pa_cons p q) (ee_mu 0 rfl (Or.inl rfl) rfl) (ea_cons (fun _ _ _ p q => pa_cons p q) (ee_callD (r := .dat (.int p1.1)) (d' := p1.2) hkm g__law_one_of (Nat.le_of_ble_eq_true rfl) (by rfl) rfl (ea_cons (fun _ _ _ p q => pa_cons p q) (ee_mu 0 rfl (Or.inl rfl) rfl) (ea_cons (fun _ _ _ p q => pa_cons p q) (ee_lst (ea_cons (fun _ _ _ p q => pa_cons p q) ee_int (ea_cons (fun _ _ _ p q => pa_cons p q) ee_int (ea_cons (fun _ _ _ p q => pa_cons p q) (ee_powC (i := 10) (j := 9) (k := 1000000000) ee_int ee_int (cpow_ok rfl) (by decide +kernel)) ea_nil))) rfl (lnOk 3 rfl (by decide))) ea_nil)) (one_of_A PyData.int ([1, 10, 1000000000] : List Int) hp1) (mu_mu (.inr tch0) (mu_dat mu_nil))) ea_nil)) ⟨p1.1, rfl, p2, hp2, rfl, rfl⟩ (mu_mu (.inr tch0) (mu_dat mu_nil)))) rfl (mc.length + tl.length + 0) MD_lenN (hm_dice hkm MD_lenN (tch_nomu rfl))) (o' := .nx _ (MD mc k p2.2 ++ (tl ++ [[]]))) (by rw [List.append_assoc]; try rfl)) ?_
  show Ex _ _ [.mu k, .mu (mc.length + tl.length + 0), .dat (.int (1 + p2.1)), .un, .un, .un, .un, .un, .un, .un, .un, .un, .un, .un, .un] _ _
  obtain ⟨t3, ht3, h⟩ := bindS h
  obtain ⟨s7, hs7, h⟩ := bindS h
  refine ex_cons (ss_forS (s0 := ([], p2.2)) PyData.int _ _ (fun s4 : (List (((Int × Int × Int) × (Int × Int × Int)) × Int)) × Dice => [.mu k, .mu (mc.length + tl.length + 0), .dat (.int (1 + p2.1)), .un, .un, .un, .un, .un, .un, .un, .un, .un, .un, .un, .un]) (fun s4 : (List (((Int × Int × Int) × (Int × Int × Int)) × Int)) × Dice => (MD mc k s4.2 ++ (tl ++ [(s4.1.map e_t2t2t3iiit3iiii)]))) (mc.length + tl.length + 1) (fun _ _ => rfl) (it_rngO T.range (by rfl) (fun X _ h1 h2 h3 => pi_range1 h2 h3 h1) (ea_cons (fun _ _ _ p q => pa_cons p q) ee_int ea_nil) ht3) (fun _ => trivial) (fun _ => MD_lenN1) (.cons (.mu (by first | omega | (simp only [List.length_append, MD_len, M2_len, List.length_cons, List.length_nil, Sx.blk]; omega))) (.cons (.mu (by first | omega | (simp only [List.length_append, MD_len, M2_len, List.length_cons, List.length_nil, Sx.blk]; omega))) (.cons .dat (.cons .un (.cons .un (.cons .un (.cons .un (.cons .un (.cons .un (.cons .un (.cons .un (.cons .un (.cons .un (.cons .un (.cons .un .nil)))))))))))))))
    (fun x5 _ s4 s6 h => ⟨_, _, (eg_name 3 sc__law_pairs_right.nd rfl (Or.inl rfl) (.inl rfl)), by
      show Ex _ _ [.mu k, .mu (mc.length + tl.length + 0), .dat (.int (1 + p2.1)), .dat (.int x5), .un, .un, .un, .un, .un, .un, .un, .un, .un, .un, .un] _ _
      obtain ⟨p8, hp8, h⟩ := bindS h
      obtain ⟨p9, hp9, h⟩ := bindS h
      refine ex_cons (ss_par 4 5 sc__law_pairs_right.nd rfl rfl (by decide) rfl rfl (fun X hX => (sw_env (env' := env0 (defScope s__law_pairs_right)) hX.sc _ _).trans rfl) (ea_cons (fun _ _ _ p q => pa_cons p q) (ee_sub (ee_callD (r := .dat (.int p8.1)) (d' := p8.2) hkm g__law_roll (Nat.le_of_ble_eq_true rfl) (by rfl) rfl (ea_cons (fun _ _ _ p q => pa_cons p q) (ee_mu 0 rfl (Or.inl rfl) rfl) (ea_cons (fun _ _ _ p q => pa_cons p q) (ee_powC (i := 10) (j := 6) (k := 1000000) ee_int ee_int (cpow_ok rfl) (by decide +kernel)) ea_nil)) ⟨1000000, rfl, p8, hp8, rfl, rfl⟩ (mu_mu (.inr tch0) (mu_dat mu_nil))) ee_int) (ea_cons (fun _ _ _ p q => pa_cons p q) (ee_sub (ee_callD (r := .dat (.int p9.1)) (d' := p9.2) hkm g__law_roll (Nat.le_of_ble_eq_true rfl) (by rfl) rfl (ea_cons (fun _ _ _ p q => pa_cons p q) (ee_mu 0 rfl (Or.inl rfl) rfl) (ea_cons (fun _ _ _ p q => pa_cons p q) (ee_powC (i := 10) (j := 6) (k := 1000000) ee_int ee_int (cpow_ok rfl) (by decide +kernel)) ea_nil)) ⟨1000000, rfl, p9, hp9, rfl, rfl⟩ (mu_mu (.inr tch0) (mu_dat mu_nil))) ee_int) ea_nil)) rfl rfl) ?_
      show Ex _ _ [.mu k, .mu (mc.length + tl.length + 0), .dat (.int (1 + p2.1)), .dat (.int x5), .dat (.int (p8.1 - 500000)), .dat (.int (p9.1 - 500000)), .un, .un, .un, .un, .un, .un, .un, .un, .un] _ _
      obtain ⟨t10, ht10, h⟩ := bindS h
      obtain ⟨t12, ht12, h⟩ := bindS h
      refine ex_cons (ss_set 6 sc__law_pairs_right.nd rfl (Or.inl rfl) (.inl rfl) (fun _ => rfl) (ee_ifO PyData.int (et_neO (nobehind _ (by decide) (by decide)) (ee_tup (ea_cons (fun _ _ _ p q => pa_cons p q) (ee_var 4 rfl (Or.inl rfl) rfl) (ea_cons (fun _ _ _ p q => pa_cons p q) (ee_var 5 rfl (Or.inl rfl) rfl) ea_nil)) rfl (lnOk 2 rfl (by decide))) (ee_tup (ea_cons (fun _ _ _ p q => pa_cons p q) ee_int (ea_cons (fun _ _ _ p q => pa_cons p q) ee_int ea_nil)) rfl (lnOk 2 rfl (by decide))) rfl rfl ht10) ht12 (fun _ g13 => by obtain ⟨t11, ht11, g13⟩ := bindS g13; obtain rfl := someS g13; exact (ee_call g__law_common (Nat.le_of_ble_eq_true rfl) (by rfl) (ea_cons (fun _ _ _ p q => pa_cons p q) (ee_var 4 rfl (Or.inl rfl) rfl) (ea_cons (fun _ _ _ p q => pa_cons p q) (ee_var 5 rfl (Or.inl rfl) rfl) ea_nil)) ⟨(p8.1 - 500000), (p9.1 - 500000), rfl, rfl, t11, ht11, rfl⟩ (mu_dat (mu_dat mu_nil)))) (fun _ g14 => by obtain rfl := someS g14; exact ee_int)) rfl) ?_
      show Ex _ _ [.mu k, .mu (mc.length + tl.length + 0), .dat (.int (1 + p2.1)), .dat (.int x5), .dat (.int (p8.1 - 500000)), .dat (.int (p9.1 - 500000)), .dat (.int t12), .un, .un, .un, .un, .un, .un, .un, .un] _ _
      obtain ⟨p15, hp15, h⟩ := bindS h
      refine ex_cons (ss_set 7 sc__law_pairs_right.nd rfl (Or.inl rfl) (.inl rfl) (fun _ => rfl) (ee_callD (r := .dat (.int p15.1)) (d' := p15.2) hkm g__law_one_of (Nat.le_of_ble_eq_true rfl) (by rfl) rfl (ea_cons (fun _ _ _ p q => pa_cons p q) (ee_mu 0 rfl (Or.inl rfl) rfl) (ea_cons (fun _ _ _ p q => pa_cons p q) (ee_lst (ea_cons (fun _ _ _ p q => pa_cons p q) (ee_var 2 rfl (Or.inl rfl) rfl) (ea_cons (fun _ _ _ p q => pa_cons p q) (ee_var 2 rfl (Or.inl rfl) rfl) (ea_cons (fun _ _ _ p q => pa_cons p q) (ee_add (ee_var 2 rfl (Or.inl rfl) rfl) ee_int) (ea_cons (fun _ _ _ p q => pa_cons p q) ee_int ea_nil)))) rfl (lnOk 4 rfl (by decide))) ea_nil)) (one_of_A PyData.int ([(1 + p2.1), (1 + p2.1), ((1 + p2.1) + 1), 0] : List Int) hp15) (mu_mu (.inr tch0) (mu_dat mu_nil))) rfl) ?_
      show Ex _ _ [.mu k, .mu (mc.length + tl.length + 0), .dat (.int (1 + p2.1)), .dat (.int x5), .dat (.int (p8.1 - 500000)), .dat (.int (p9.1 - 500000)), .dat (.int t12), .dat (.int p15.1), .un, .un, .un, .un, .un, .un, .un] _ _
      obtain ⟨p16, hp16, h⟩ := bindS h
      obtain ⟨p17, hp17, h⟩ := bindS h
      refine ex_cons (ss_par 8 9 sc__law_pairs_right.nd rfl rfl (by decide) rfl rfl (fun X hX => (sw_env (env' := env0 (defScope s__law_pairs_right)) hX.sc _ _).trans rfl) (ea_cons (fun _ _ _ p q => pa_cons p q) (ee_callD (r := .dat (.int p16.1)) (d' := p16.2) hkm g__law_roll (Nat.le_of_ble_eq_true rfl) (by rfl) rfl (ea_cons (fun _ _ _ p q => pa_cons p q) (ee_mu 0 rfl (Or.inl rfl) rfl) (ea_cons (fun _ _ _ p q => pa_cons p q) ee_int ea_nil)) ⟨99, rfl, p16, hp16, rfl, rfl⟩ (mu_mu (.inr tch0) (mu_dat mu_nil))) (ea_cons (fun _ _ _ p q => pa_cons p q) (ee_callD (r := .dat (.int p17.1)) (d' := p17.2) hkm g__law_roll (Nat.le_of_ble_eq_true rfl) (by rfl) rfl (ea_cons (fun _ _ _ p q => pa_cons p q) (ee_mu 0 rfl (Or.inl rfl) rfl) (ea_cons (fun _ _ _ p q => pa_cons p q) ee_int ea_nil)) ⟨99, rfl, p17, hp17, rfl, rfl⟩ (mu_mu (.inr tch0) (mu_dat mu_nil))) ea_nil)) rfl rfl) ?_
      show Ex _ _ [.mu k, .mu (mc.length + tl.length + 0), .dat (.int (1 + p2.1)), .dat (.int x5), .dat (.int (p8.1 - 500000)), .dat (.int (p9.1 - 500000)), .dat (.int t12), .dat (.int p15.1), .dat (.int p16.1), .dat (.int p17.1), .un, .un, .un, .un, .un] _ _
      obtain ⟨t18, ht18, h⟩ := bindS h
      obtain ⟨t19, ht19, h⟩ := bindS h
      obtain ⟨t20, ht20, h⟩ := bindS h
      obtain ⟨t21, ht21, h⟩ := bindS h
      obtain ⟨t22, ht22, h⟩ := bindS h
      obtain ⟨t23, ht23, h⟩ := bindS h
      refine ex_cons (ss_appD (j := 0) e_t2t2t3iiit3iiii (fun X _ _ p q => pe_bm PySem.F.plainAttrs_list PySem.F.slot_list_append PySem.F.type_list_append mt_append p q) (fun _ => rfl) (ee_mu 1 rfl (Or.inl rfl) rfl) (ea_cons (fun _ _ _ p q => pa_cons p q) (ee_tup (ea_cons (fun _ _ _ p q => pa_cons p q) (ee_tup (ea_cons (fun _ _ _ p q => pa_cons p q) (ee_tup (ea_cons (fun _ _ _ p q => pa_cons p q) (ee_var 8 rfl (Or.inl rfl) rfl) (ea_cons (fun _ _ _ p q => pa_cons p q) (ee_var 9 rfl (Or.inl rfl) rfl) (ea_cons (fun _ _ _ p q => pa_cons p q) ee_int ea_nil))) rfl (lnOk 3 rfl (by decide))) (ea_cons (fun _ _ _ p q => pa_cons p q) (ee_tup (ea_cons (fun _ _ _ p q => pa_cons p q) (ee_add (ee_var 8 rfl (Or.inl rfl) rfl) (ee_mulO (ee_var 7 rfl (Or.inl rfl) rfl) (ee_divO (ee_var 4 rfl (Or.inl rfl) rfl) (ee_var 6 rfl (Or.inl rfl) rfl) ht18) ht19)) (ea_cons (fun _ _ _ p q => pa_cons p q) (ee_add (ee_var 9 rfl (Or.inl rfl) rfl) (ee_mulO (ee_var 7 rfl (Or.inl rfl) rfl) (ee_divO (ee_var 5 rfl (Or.inl rfl) rfl) (ee_var 6 rfl (Or.inl rfl) rfl) ht20) ht21)) (ea_cons (fun _ _ _ p q => pa_cons p q) ee_int ea_nil))) rfl (lnOk 3 rfl (by decide))) ea_nil)) rfl (lnOk 2 rfl (by decide))) (ea_cons (fun _ _ _ p q => pa_cons p q) (ee_ifV PyData.int (et_neO (nobehind _ (by decide) (by decide)) (ee_tup (ea_cons (fun _ _ _ p q => pa_cons p q) (ee_var 4 rfl (Or.inl rfl) rfl) (ea_cons (fun _ _ _ p q => pa_cons p q) (ee_var 5 rfl (Or.inl rfl) rfl) ea_nil)) rfl (lnOk 2 rfl (by decide))) (ee_tup (ea_cons (fun _ _ _ p q => pa_cons p q) ee_int (ea_cons (fun _ _ _ p q => pa_cons p q) ee_int ea_nil)) rfl (lnOk 2 rfl (by decide))) rfl rfl ht22) (fun _ => (ee_var 7 rfl (Or.inl rfl) rfl)) (fun _ => ee_int)) ea_nil)) rfl (lnOk 2 rfl (by decide))) ea_nil) rfl rfl ht23 (by first | exact Nat.le_refl _ | (simp only [List.length_append, MD_len, M2_len, List.length_cons, List.length_nil, Sx.blk]; omega)) rfl) ?_
      obtain rfl := someS h
      exact ex_nil (turn_go (.cons (.mu (by first | omega | (simp only [List.length_append, MD_len, M2_len, List.length_cons, List.length_nil, Sx.blk]; omega))) (.cons (.mu (by first | omega | (simp only [List.length_append, MD_len, M2_len, List.length_cons, List.length_nil, Sx.blk]; omega))) (.cons .dat (.cons .un (.cons .un (.cons .un (.cons .un (.cons .un (.cons .un (.cons .un (.cons .un (.cons .un (.cons .un (.cons .un (.cons .un .nil))))))))))))))))
    ⟩) hs7) ?_
  obtain ⟨t24, ht24, h⟩ := bindS h
  refine ex_cons (ss_unMu (ds := [(e_t2t2t3iiit3iiii t24.1), (e_t2t2t3iiit3iiii t24.2)]) (fun _ => rfl) (fun X hX => (sw_env (env' := env0 (defScope s__law_pairs_right)) hX.sc _ _).trans rfl) (fun _ => rfl) (fun _ => rfl) (fun _ => rfl) (ee_mu 1 rfl (Or.inl rfl) rfl) (by rw [lkD, asN2_some ht24]; rfl) (egs_cons (fun _ _ _ p q => pgs_cons p q) (eg_tup (fun _ => rfl) (fun _ => rfl) (egs_cons (fun _ _ _ p q => pgs_cons p q) (eg_name 10 sc__law_pairs_right.nd rfl (Or.inl rfl) (.inl rfl)) (egs_cons (fun _ _ _ p q => pgs_cons p q) (eg_name 11 sc__law_pairs_right.nd rfl (Or.inl rfl) (.inl rfl)) egs_nil))) (egs_cons (fun _ _ _ p q => pgs_cons p q) (eg_tup (fun _ => rfl) (fun _ => rfl) (egs_cons (fun _ _ _ p q => pgs_cons p q) (eg_name 12 sc__law_pairs_right.nd rfl (Or.inl rfl) (.inl rfl)) (egs_cons (fun _ _ _ p q => pgs_cons p q) (eg_name 13 sc__law_pairs_right.nd rfl (Or.inl rfl) (.inl rfl)) egs_nil))) egs_nil))) ?_
  show Ex _ _ [.mu k, .mu (mc.length + tl.length + 0), .dat (.int (1 + p2.1)), .un, .un, .un, .un, .un, .un, .un, .dat (e_t2t3iiit3iii t24.1.1), .dat (.int t24.1.2), .dat (e_t2t3iiit3iii t24.2.1), .dat (.int t24.2.2), .un] _ _
  obtain ⟨t25, ht25, h⟩ := bindS h
  refine ex_cons (ss_set 14 sc__law_pairs_right.nd rfl (Or.inl rfl) (.inl rfl) (fun _ => rfl) (ee_call g_same_paper (Nat.le_of_ble_eq_true rfl) (by rfl) (ea_cons (fun _ _ _ p q => pa_cons p q) (ee_var 10 rfl (Or.inl rfl) rfl) (ea_cons (fun _ _ _ p q => pa_cons p q) (ee_var 12 rfl (Or.inl rfl) rfl) ea_nil)) ⟨[t24.1.1.1, t24.1.1.2], [t24.2.1.1, t24.2.1.2], rfl, rfl, t25, ht25, rfl⟩ (mu_dat (mu_dat mu_nil))) rfl) ?_
  show Ex _ _ [.mu k, .mu (mc.length + tl.length + 0), .dat (.int (1 + p2.1)), .un, .un, .un, .un, .un, .un, .un, .dat (e_t2t3iiit3iii t24.1.1), .dat (.int t24.1.2), .dat (e_t2t3iiit3iii t24.2.1), .dat (.int t24.2.2), .dat t25] _ _
  obtain ⟨t26, ht26, h⟩ := bindS h
  obtain ⟨t27, ht27, h⟩ := bindS h
  obtain ⟨t36, ht36, h⟩ := bindS h
  rcases boolCases t36 with hc37 | hc37
  · have h := iteT' hc37 h
    refine ex_ifT (et_w (ew_orO (et_neO (nobehind _ (by decide) (by decide)) (ee_call g_whole_form (Nat.le_of_ble_eq_true rfl) (by rfl) (ea_cons (fun _ _ _ p q => pa_cons p q) (ee_var 10 rfl (Or.inl rfl) rfl) ea_nil) ⟨[t24.1.1.1, t24.1.1.2], rfl, rfl, t26, ht26, rfl⟩ (mu_dat mu_nil)) (ee_tup (ea_cons (fun _ _ _ p q => pa_cons p q) (ee_tup (ea_cons (fun _ _ _ p q => pa_cons p q) (ee_var 11 rfl (Or.inl rfl) rfl) ea_nil) rfl (lnOk 1 rfl (by decide))) (ea_cons (fun _ _ _ p q => pa_cons p q) (ee_tup (ea_cons (fun _ _ _ p q => pa_cons p q) ee_int ea_nil) rfl (lnOk 1 rfl (by decide))) ea_nil)) rfl (lnOk 2 rfl (by decide))) rfl rfl ht27) ht36 (fun _ g35 => by obtain ⟨t28, ht28, g35⟩ := bindS g35; obtain ⟨t29, ht29, g35⟩ := bindS g35; obtain ⟨t30, ht30, g35⟩ := bindS g35; obtain ⟨t31, ht31, g35⟩ := bindS g35; obtain ⟨t34, ht34, g35⟩ := bindS g35; obtain rfl := someS g35; exact (ew_orO (et_neO (nobehind _ (by decide) (by decide)) (ee_eqO (nobehind _ (by decide) (by decide)) (ee_ixT (fun X _ _ p q => pe_ix ix_tup p q (fun _ _ => rfl)) (ee_is (ee_var 14 rfl (Or.inl rfl) rfl) (by rw [tupD_some ht28])) ee_int ht29) ee_str rfl rfl ht30) (ee_eqI (nobehind _ (by decide) (by decide)) (ee_var 11 rfl (Or.inl rfl) rfl) (ee_var 13 rfl (Or.inl rfl) rfl)) rfl rfl ht31) ht34 (fun _ g33 => by obtain ⟨t32, ht32, g33⟩ := bindS g33; obtain rfl := someS g33; exact (ew_or1 (et_notB (nobehind _ (by decide) (by decide)) (ee_call g_is_same_paper (Nat.le_of_ble_eq_true rfl) (by rfl) (ea_cons (fun _ _ _ p q => pa_cons p q) (ee_var 10 rfl (Or.inl rfl) rfl) (ea_cons (fun _ _ _ p q => pa_cons p q) (ee_var 12 rfl (Or.inl rfl) rfl) (ea_cons (fun _ _ _ p q => pa_cons p q) (ee_var 14 rfl (Or.inl rfl) rfl) ea_nil))) ⟨[t24.1.1.1, t24.1.1.2], [t24.2.1.1, t24.2.1.2], t25, rfl, rfl, t32, ht32, rfl⟩ (mu_dat (mu_dat (mu_dat mu_nil)))) ee_bool))))))) hc37 ?_
    obtain rfl := someS h
    exact ex_out (ss_ret ee_bool) rfl (by rw [← List.append_assoc]; exact .dat)
  · have h := iteF' hc37 h
    refine ex_ifF0 (et_w (ew_orO (et_neO (nobehind _ (by decide) (by decide)) (ee_call g_whole_form (Nat.le_of_ble_eq_true rfl) (by rfl) (ea_cons (fun _ _ _ p q => pa_cons p q) (ee_var 10 rfl (Or.inl rfl) rfl) ea_nil) ⟨[t24.1.1.1, t24.1.1.2], rfl, rfl, t26, ht26, rfl⟩ (mu_dat mu_nil)) (ee_tup (ea_cons (fun _ _ _ p q => pa_cons p q) (ee_tup (ea_cons (fun _ _ _ p q => pa_cons p q) (ee_var 11 rfl (Or.inl rfl) rfl) ea_nil) rfl (lnOk 1 rfl (by decide))) (ea_cons (fun _ _ _ p q => pa_cons p q) (ee_tup (ea_cons (fun _ _ _ p q => pa_cons p q) ee_int ea_nil) rfl (lnOk 1 rfl (by decide))) ea_nil)) rfl (lnOk 2 rfl (by decide))) rfl rfl ht27) ht36 (fun _ g35 => by obtain ⟨t28, ht28, g35⟩ := bindS g35; obtain ⟨t29, ht29, g35⟩ := bindS g35; obtain ⟨t30, ht30, g35⟩ := bindS g35; obtain ⟨t31, ht31, g35⟩ := bindS g35; obtain ⟨t34, ht34, g35⟩ := bindS g35; obtain rfl := someS g35; exact (ew_orO (et_neO (nobehind _ (by decide) (by decide)) (ee_eqO (nobehind _ (by decide) (by decide)) (ee_ixT (fun X _ _ p q => pe_ix ix_tup p q (fun _ _ => rfl)) (ee_is (ee_var 14 rfl (Or.inl rfl) rfl) (by rw [tupD_some ht28])) ee_int ht29) ee_str rfl rfl ht30) (ee_eqI (nobehind _ (by decide) (by decide)) (ee_var 11 rfl (Or.inl rfl) rfl) (ee_var 13 rfl (Or.inl rfl) rfl)) rfl rfl ht31) ht34 (fun _ g33 => by obtain ⟨t32, ht32, g33⟩ := bindS g33; obtain rfl := someS g33; exact (ew_or1 (et_notB (nobehind _ (by decide) (by decide)) (ee_call g_is_same_paper (Nat.le_of_ble_eq_true rfl) (by rfl) (ea_cons (fun _ _ _ p q => pa_cons p q) (ee_var 10 rfl (Or.inl rfl) rfl) (ea_cons (fun _ _ _ p q => pa_cons p q) (ee_var 12 rfl (Or.inl rfl) rfl) (ea_cons (fun _ _ _ p q => pa_cons p q) (ee_var 14 rfl (Or.inl rfl) rfl) ea_nil))) ⟨[t24.1.1.1, t24.1.1.2], [t24.2.1.1, t24.2.1.2], t25, rfl, rfl, t32, ht32, rfl⟩ (mu_dat (mu_dat (mu_dat mu_nil)))) ee_bool))))))) hc37 ?_
    obtain ⟨t38, ht38, h⟩ := bindS h
    obtain ⟨t39, ht39, h⟩ := bindS h
    obtain ⟨t40, ht40, h⟩ := bindS h
    obtain ⟨t46, ht46, h⟩ := bindS h
    obtain rfl := someS h
    exact ex_out (ss_ret (ee_orO (ee_eqO (nobehind _ (by decide) (by decide)) (ee_ixT (fun X _ _ p q => pe_ix ix_tup p q (fun _ _ => rfl)) (ee_is (ee_var 14 rfl (Or.inl rfl) rfl) (by rw [tupD_some ht38])) ee_int ht39) ee_str rfl rfl ht40) ht46 (fun _ g47 => by obtain ⟨t41, ht41, g47⟩ := bindS g47; obtain ⟨t42, ht42, g47⟩ := bindS g47; obtain ⟨t43, ht43, g47⟩ := bindS g47; obtain ⟨t44, ht44, g47⟩ := bindS g47; obtain ⟨t45, ht45, g47⟩ := bindS g47; obtain rfl := someS g47; exact (ee_one (ee_eqO (nobehind _ (by decide) (by decide)) (ee_call g_led (Nat.le_of_ble_eq_true rfl) (by rfl) (ea_cons (fun _ _ _ p q => pa_cons p q) (ee_is (ee_ixT (fun X _ _ p q => pe_ix ix_tup p q (fun _ _ => rfl)) (ee_is (ee_var 14 rfl (Or.inl rfl) rfl) (by rw [tupD_some ht41])) ee_int ht42) (congrArg Rs.dat (u_d_t2t2t2iit2iit2ii_some ht43))) (ea_cons (fun _ _ _ p q => pa_cons p q) (ee_var 10 rfl (Or.inl rfl) rfl) ea_nil)) ⟨t43, [t24.1.1.1, t24.1.1.2], rfl, rfl, t44, ht44, rfl⟩ (mu_dat (mu_dat mu_nil))) (ee_var 12 rfl (Or.inl rfl) rfl) rfl rfl ht45))))) rfl (by rw [← List.append_assoc]; exact .dat)

def s_law : Stmt := topS 52
def nm_law : List Str := ["script", "at", "dice", "rows", "shift", "near", "value"]
theorem sc_law : FnScope nm_law ["script"] (defScope s_law) := ⟨rfl, rfl, rfl, by decide +kernel, rfl, by decide +kernel, by decide +kernel⟩
def m_law (v_script : List Int) : Option (Bool) := (rgO (max 1 (min 2 (v_script.length : Int)))).bind fun t1 => (forL (fun (x3 : Int) (s2 : Unit) => ((m__law_dice v_script x3).bind fun t6 => (m__law_word_right t6 ).bind fun p7 => (if (!p7.1) = true then some (true, p7.2) else ((m__law_word_right p7.2 ).bind fun p8 => (if (!p8.1) = true then some (true, p8.2) else ((m__law_again_right p8.2 ).bind fun p9 => (if (!p9.1) = true then some (true, p9.2) else ((m__law_pairs_right p9.2 ).bind fun p10 => some ((!p10.1), p10.2))).bind fun t12 => some (t12.1, t12.2))).bind fun t14 => some (t14.1, t14.2))).bind fun t16 => if t16.1 = true then (some (.ret (false, t16.2))) else (some (.go ())) : Option (Lo (Unit) (Bool × Dice)))) t1 ()).bind fun o19 => match o19 with | .go s5 => ((szO ([(e_t2t2t2iit2iit2ii (((2, 1), (1, 1)), (0, 5))), (e_t2t2t2iit2iit2ii (((0, 1), (1, 0)), (0, 5))), (e_t2t2t2iit2iit2ii (((2, 1), (1, 2)), (0, 5))), (e_t2t2t2iit2iit2ii (((2, 0), (0, 1)), (0, 5))), (e_t2v2t2iit2iit2ii (((2, 1), (1, 1)), (0, 5))), (e_t2t2t2iit2iiv2ii (((2, 1), (1, 1)), (0, 5))), (e_t2t2t2iit2iit3iii (((2, 1), (1, 1)), (0, 5, 1))), (e_t1t2t2iit2ii ((2, 1), (1, 1))), (e_t2t2t2bit2iit2ii (((true, 0), (0, 1)), (0, 5))), (e_t2t2t2iit2iit2bi (((2, 1), (1, 1)), (false, 0))), (e_t2t1t2iit2ii (((2, 1), (1, 1)).1, (0, 5))), (e_t2t2t3iiit3iiit2ii (((1, 0, 0), (0, 1, 0)), (0, 5))), (e_t2t2t2iit2iit2t2iii (((2, 1), (1, 1)), ((0, 1), 5))), .none, (.str (Str.ofString "move")), (e_t2t2t2iit2iit2ii (((1, 100000000000000000000000000000000000000000000000000000000000), (0, 1)), (0, 5)))] : List D)).bind fun t20 => (mapO (fun (x21 : D) => (m_is_whole_move x21).bind fun t24 => some t24) ([(e_t2t2t2iit2iit2ii (((2, 1), (1, 1)), (0, 5))), (e_t2t2t2iit2iit2ii (((0, 1), (1, 0)), (0, 5))), (e_t2t2t2iit2iit2ii (((2, 1), (1, 2)), (0, 5))), (e_t2t2t2iit2iit2ii (((2, 0), (0, 1)), (0, 5))), (e_t2v2t2iit2iit2ii (((2, 1), (1, 1)), (0, 5))), (e_t2t2t2iit2iiv2ii (((2, 1), (1, 1)), (0, 5))), (e_t2t2t2iit2iit3iii (((2, 1), (1, 1)), (0, 5, 1))), (e_t1t2t2iit2ii ((2, 1), (1, 1))), (e_t2t2t2bit2iit2ii (((true, 0), (0, 1)), (0, 5))), (e_t2t2t2iit2iit2bi (((2, 1), (1, 1)), (false, 0))), (e_t2t1t2iit2ii (((2, 1), (1, 1)).1, (0, 5))), (e_t2t2t3iiit3iiit2ii (((1, 0, 0), (0, 1, 0)), (0, 5))), (e_t2t2t2iit2iit2t2iii (((2, 1), (1, 1)), ((0, 1), 5))), .none, (.str (Str.ofString "move")), (e_t2t2t2iit2iit2ii (((1, 100000000000000000000000000000000000000000000000000000000000), (0, 1)), (0, 5)))] : List D)).bind fun t25 => (repO ([false] : List Bool) 13).bind fun t26 => (catO ([true, true] : List Bool) t26).bind fun t27 => (catO (t27 : List Bool) [true]).bind fun t28 => (eqO (e_lb t25) (e_lb t28)).bind fun t29 => some t29) | .brk s5 => ((szO ([(e_t2t2t2iit2iit2ii (((2, 1), (1, 1)), (0, 5))), (e_t2t2t2iit2iit2ii (((0, 1), (1, 0)), (0, 5))), (e_t2t2t2iit2iit2ii (((2, 1), (1, 2)), (0, 5))), (e_t2t2t2iit2iit2ii (((2, 0), (0, 1)), (0, 5))), (e_t2v2t2iit2iit2ii (((2, 1), (1, 1)), (0, 5))), (e_t2t2t2iit2iiv2ii (((2, 1), (1, 1)), (0, 5))), (e_t2t2t2iit2iit3iii (((2, 1), (1, 1)), (0, 5, 1))), (e_t1t2t2iit2ii ((2, 1), (1, 1))), (e_t2t2t2bit2iit2ii (((true, 0), (0, 1)), (0, 5))), (e_t2t2t2iit2iit2bi (((2, 1), (1, 1)), (false, 0))), (e_t2t1t2iit2ii (((2, 1), (1, 1)).1, (0, 5))), (e_t2t2t3iiit3iiit2ii (((1, 0, 0), (0, 1, 0)), (0, 5))), (e_t2t2t2iit2iit2t2iii (((2, 1), (1, 1)), ((0, 1), 5))), .none, (.str (Str.ofString "move")), (e_t2t2t2iit2iit2ii (((1, 100000000000000000000000000000000000000000000000000000000000), (0, 1)), (0, 5)))] : List D)).bind fun t20 => (mapO (fun (x21 : D) => (m_is_whole_move x21).bind fun t24 => some t24) ([(e_t2t2t2iit2iit2ii (((2, 1), (1, 1)), (0, 5))), (e_t2t2t2iit2iit2ii (((0, 1), (1, 0)), (0, 5))), (e_t2t2t2iit2iit2ii (((2, 1), (1, 2)), (0, 5))), (e_t2t2t2iit2iit2ii (((2, 0), (0, 1)), (0, 5))), (e_t2v2t2iit2iit2ii (((2, 1), (1, 1)), (0, 5))), (e_t2t2t2iit2iiv2ii (((2, 1), (1, 1)), (0, 5))), (e_t2t2t2iit2iit3iii (((2, 1), (1, 1)), (0, 5, 1))), (e_t1t2t2iit2ii ((2, 1), (1, 1))), (e_t2t2t2bit2iit2ii (((true, 0), (0, 1)), (0, 5))), (e_t2t2t2iit2iit2bi (((2, 1), (1, 1)), (false, 0))), (e_t2t1t2iit2ii (((2, 1), (1, 1)).1, (0, 5))), (e_t2t2t3iiit3iiit2ii (((1, 0, 0), (0, 1, 0)), (0, 5))), (e_t2t2t2iit2iit2t2iii (((2, 1), (1, 1)), ((0, 1), 5))), .none, (.str (Str.ofString "move")), (e_t2t2t2iit2iit2ii (((1, 100000000000000000000000000000000000000000000000000000000000), (0, 1)), (0, 5)))] : List D)).bind fun t25 => (repO ([false] : List Bool) 13).bind fun t26 => (catO ([true, true] : List Bool) t26).bind fun t27 => (catO (t27 : List Bool) [true]).bind fun t28 => (eqO (e_lb t25) (e_lb t28)).bind fun t29 => some t29) | .ret b18 => (some b18.1)
def R_law : Rel := fun rs ms r ms2 => ∃ (v_script : List Int), rs = [.scr v_script] ∧ ms2 = ms ∧ ∃ v : Bool, m_law v_script = some v ∧ r = .dat (.bool v)
theorem fn_law (T : Txt K mg) {f : Addr} {fd : FuncData} (Fu : Fun K "law" "law" s_law f fd) (g__law_dice : Kn P w K mg base 1 "_law_dice" R__law_dice) (g__law_word_right : Kn P w K mg base 8 "_law_word_right" R__law_word_right) (g__law_again_right : Kn P w K mg base 8 "_law_again_right" R__law_again_right) (g__law_pairs_right : Kn P w K mg base 7 "_law_pairs_right" R__law_pairs_right) (g_is_whole_move : Kn P w K mg base 5 "is_whole_move" R_is_whole_move) : FnOk P w K mg base CX0 9 f fd ["script"] (spR K R_law) := by
  refine fnok_of (kk := 8) Fu sc_law rfl (by decide) (by rintro rs ms0 r ms ⟨v_script, rfl, rfl, v, h, rfl⟩; exact ⟨rfl, rfl⟩) ?_
  rintro rs ms0 r ms ⟨v_script, rfl, rfl, v, h, rfl⟩
  show Ex _ _ [.scr v_script, .un, .un, .un, .un, .un, .un] ms (fun o => Fin ms o (.dat (.bool v)))
  unfold m_law at h
  show Ex _ _ [.scr v_script, .un, .un, .un, .un, .un, .un] _ _
  obtain ⟨t1, ht1, h⟩ := bindS h
  obtain ⟨o19, ho19, h⟩ := bindS h
  refine ex_loop (ss_for (s0 := ()) (fun _ _ => rfl) hpn PyData.int _ _ (fun s2 : Unit => [.scr v_script, .un, .un, .un, .un, .un, .un]) (fun s2 : Unit => ms) (fun b18 : Bool × Dice => Rs.dat (.bool b18.1)) (fun b18 : Bool × Dice => (MD (ms ++ [[]]) ms.length b18.2 ++ [])) (ms.length) (it_rngO T.range (by rfl) (fun X _ h1 h2 h3 => pi_range1 h2 h3 h1) (ea_cons (fun _ _ _ p q => pa_cons p q) (ee_max2 T.max (by rfl) (ea_cons (fun _ _ _ p q => pa_cons p q) ee_int (ea_cons (fun _ _ _ p q => pa_cons p q) (ee_min2 T.min (by rfl) (ea_cons (fun _ _ _ p q => pa_cons p q) ee_int (ea_cons (fun _ _ _ p q => pa_cons p q) (ee_is (ee_len T.len (by rfl) (ea_cons (fun _ _ _ p q => pa_cons p q) (ee_scr 0 rfl (Or.inl rfl) rfl) ea_nil) rfl) (by rw [List.length_map])) ea_nil))) ea_nil))) ea_nil) ht1) (fun _ => trivial) (fun _ => rfl) (.cons .scr (.cons .un (.cons .un (.cons .un (.cons .un (.cons .un (.cons .un .nil)))))))
    (fun x3 _ s2 o h => ⟨_, _, (eg_name 1 sc_law.nd rfl (Or.inl rfl) (.inl rfl)), lo_of (fun _ => rfl) rfl (by
      show Ex _ _ [.scr v_script, .dat (.int x3), .un, .un, .un, .un, .un] _ _
      obtain ⟨t6, ht6, h⟩ := bindS h
      refine ex_cons (ss_open 2 sc_law.nd rfl (Or.inl rfl) (.inl rfl) (fun _ => rfl) (eeq_of (ee_call g__law_dice (Nat.le_of_ble_eq_true rfl) (by rfl) (ea_cons (fun _ _ _ p q => pa_cons p q) (ee_scr 0 rfl (Or.inl rfl) rfl) (ea_cons (fun _ _ _ p q => pa_cons p q) (ee_var 1 rfl (Or.inl rfl) rfl) ea_nil)) ⟨v_script, x3, rfl, rfl, t6, ht6, rfl⟩ (mu_scr (mu_dat mu_nil))) (hm_law rfl (fun _ => rfl))) ms.length rfl) ?_
      rw [show ms ++ [[(.int t6.1), (.int t6.2)]] = MD (ms ++ [[]]) ms.length t6 ++ [] from MD_law.symm]
      have hkm := law_hk (ms := ms)
      show Ex _ _ [.scr v_script, .dat (.int x3), .mu ms.length, .un, .un, .un, .un] _ _
      obtain ⟨p7, hp7, h⟩ := bindS h
      obtain ⟨t16, ht16, h⟩ := bindS h
      rcases boolCases t16.1 with hc17 | hc17
      · have h := iteT' hc17 h
        refine ex_ifT (et_w (ew_orD (q := t16) (et_not (et_val (fun _ _ => rfl) (ee_callD (r := .dat (.bool p7.1)) (d' := p7.2) hkm g__law_word_right (Nat.le_of_ble_eq_true rfl) (by rfl) rfl (ea_cons (fun _ _ _ p q => pa_cons p q) (ee_mu 2 rfl (Or.inl rfl) rfl) ea_nil) ⟨rfl, p7, hp7, rfl, rfl⟩ (mu_mu (.inl (by first | exact Nat.le_refl _ | (simp only [List.length_append, MD_len, M2_len, List.length_cons, List.length_nil, Sx.blk]; omega))) mu_nil)))) ht16 (fun _ g15 => by obtain ⟨p8, hp8, g15⟩ := bindS g15; obtain ⟨t14, ht14, g15⟩ := bindS g15; obtain rfl := someS g15; exact (ew_orD (q := t14) (et_not (et_val (fun _ _ => rfl) (ee_callD (r := .dat (.bool p8.1)) (d' := p8.2) hkm g__law_word_right (Nat.le_of_ble_eq_true rfl) (by rfl) rfl (ea_cons (fun _ _ _ p q => pa_cons p q) (ee_mu 2 rfl (Or.inl rfl) rfl) ea_nil) ⟨rfl, p8, hp8, rfl, rfl⟩ (mu_mu (.inl (by first | exact Nat.le_refl _ | (simp only [List.length_append, MD_len, M2_len, List.length_cons, List.length_nil, Sx.blk]; omega))) mu_nil)))) ht14 (fun _ g13 => by obtain ⟨p9, hp9, g13⟩ := bindS g13; obtain ⟨t12, ht12, g13⟩ := bindS g13; obtain rfl := someS g13; exact (ew_orD (q := t12) (et_not (et_val (fun _ _ => rfl) (ee_callD (r := .dat (.bool p9.1)) (d' := p9.2) hkm g__law_again_right (Nat.le_of_ble_eq_true rfl) (by rfl) rfl (ea_cons (fun _ _ _ p q => pa_cons p q) (ee_mu 2 rfl (Or.inl rfl) rfl) ea_nil) ⟨rfl, p9, hp9, rfl, rfl⟩ (mu_mu (.inl (by first | exact Nat.le_refl _ | (simp only [List.length_append, MD_len, M2_len, List.length_cons, List.length_nil, Sx.blk]; omega))) mu_nil)))) ht12 (fun _ g11 => by obtain ⟨p10, hp10, g11⟩ := bindS g11; obtain rfl := someS g11; exact (ew_or1 (et_not (et_val (fun _ _ => rfl) (ee_callD (r := .dat (.bool p10.1)) (d' := p10.2) hkm g__law_pairs_right (Nat.le_of_ble_eq_true rfl) (by rfl) rfl (ea_cons (fun _ _ _ p q => pa_cons p q) (ee_mu 2 rfl (Or.inl rfl) rfl) ea_nil) ⟨rfl, p10, hp10, rfl, rfl⟩ (mu_mu (.inl (by first | exact Nat.le_refl _ | (simp only [List.length_append, MD_len, M2_len, List.length_cons, List.length_nil, Sx.blk]; omega))) mu_nil)))))))))))) hc17 ?_
        obtain rfl := someS h
        exact ex_out (ss_ret ee_bool) rfl (by first | rfl | (simp only [thenEx]; rfl))
      · have h := iteF' hc17 h
        refine ex_ifF0 (et_w (ew_orD (q := t16) (et_not (et_val (fun _ _ => rfl) (ee_callD (r := .dat (.bool p7.1)) (d' := p7.2) hkm g__law_word_right (Nat.le_of_ble_eq_true rfl) (by rfl) rfl (ea_cons (fun _ _ _ p q => pa_cons p q) (ee_mu 2 rfl (Or.inl rfl) rfl) ea_nil) ⟨rfl, p7, hp7, rfl, rfl⟩ (mu_mu (.inl (by first | exact Nat.le_refl _ | (simp only [List.length_append, MD_len, M2_len, List.length_cons, List.length_nil, Sx.blk]; omega))) mu_nil)))) ht16 (fun _ g15 => by obtain ⟨p8, hp8, g15⟩ := bindS g15; obtain ⟨t14, ht14, g15⟩ := bindS g15; obtain rfl := someS g15; exact (ew_orD (q := t14) (et_not (et_val (fun _ _ => rfl) (ee_callD (r := .dat (.bool p8.1)) (d' := p8.2) hkm g__law_word_right (Nat.le_of_ble_eq_true rfl) (by rfl) rfl (ea_cons (fun _ _ _ p q => pa_cons p q) (ee_mu 2 rfl (Or.inl rfl) rfl) ea_nil) ⟨rfl, p8, hp8, rfl, rfl⟩ (mu_mu (.inl (by first | exact Nat.le_refl _ | (simp only [List.length_append, MD_len, M2_len, List.length_cons, List.length_nil, Sx.blk]; omega))) mu_nil)))) ht14 (fun _ g13 => by obtain ⟨p9, hp9, g13⟩ := bindS g13; obtain ⟨t12, ht12, g13⟩ := bindS g13; obtain rfl := someS g13; exact (ew_orD (q := t12) (et_not (et_val (fun _ _ => rfl) (ee_callD (r := .dat (.bool p9.1)) (d' := p9.2) hkm g__law_again_right (Nat.le_of_ble_eq_true rfl) (by rfl) rfl (ea_cons (fun _ _ _ p q => pa_cons p q) (ee_mu 2 rfl (Or.inl rfl) rfl) ea_nil) ⟨rfl, p9, hp9, rfl, rfl⟩ (mu_mu (.inl (by first | exact Nat.le_refl _ | (simp only [List.length_append, MD_len, M2_len, List.length_cons, List.length_nil, Sx.blk]; omega))) mu_nil)))) ht12 (fun _ g11 => by obtain ⟨p10, hp10, g11⟩ := bindS g11; obtain rfl := someS g11; exact (ew_or1 (et_not (et_val (fun _ _ => rfl) (ee_callD (r := .dat (.bool p10.1)) (d' := p10.2) hkm g__law_pairs_right (Nat.le_of_ble_eq_true rfl) (by rfl) rfl (ea_cons (fun _ _ _ p q => pa_cons p q) (ee_mu 2 rfl (Or.inl rfl) rfl) ea_nil) ⟨rfl, p10, hp10, rfl, rfl⟩ (mu_mu (.inl (by first | exact Nat.le_refl _ | (simp only [List.length_append, MD_len, M2_len, List.length_cons, List.length_nil, Sx.blk]; omega))) mu_nil)))))))))))) hc17 ?_
        obtain rfl := someS h
        exact ex_nil (by show TurnEnd _ _ _ _ _ (.nx _ (MD (ms ++ [[]]) ms.length t16.2 ++ [])); rw [MD_law]; exact turn_goX (.cons .scr (.cons .un (.cons .un (.cons .un (.cons .un (.cons .un (.cons .un .nil))))))))
    )⟩) ho19) (fun Fo19 => ?_)
  rcases o19 with s5 | s5 | b18
  · refine ex_cons Fo19 ?_
    refine ex_cons (ss_asgS (fun _ => rfl) (fun X hX => (sw_env (env' := env0 (defScope s_law)) hX.sc _ _).trans rfl) (fun _ => rfl) (ee_tup (ea_cons (fun _ _ _ p q => pa_cons p q) (ee_tup (ea_cons (fun _ _ _ p q => pa_cons p q) (ee_tup (ea_cons (fun _ _ _ p q => pa_cons p q) ee_int (ea_cons (fun _ _ _ p q => pa_cons p q) ee_int ea_nil)) rfl (lnOk 2 rfl (by decide))) (ea_cons (fun _ _ _ p q => pa_cons p q) (ee_tup (ea_cons (fun _ _ _ p q => pa_cons p q) ee_int (ea_cons (fun _ _ _ p q => pa_cons p q) ee_int ea_nil)) rfl (lnOk 2 rfl (by decide))) ea_nil)) rfl (lnOk 2 rfl (by decide))) (ea_cons (fun _ _ _ p q => pa_cons p q) (ee_tup (ea_cons (fun _ _ _ p q => pa_cons p q) ee_int (ea_cons (fun _ _ _ p q => pa_cons p q) ee_int ea_nil)) rfl (lnOk 2 rfl (by decide))) ea_nil)) rfl (lnOk 2 rfl (by decide))) rfl (eg_tup (fun _ => rfl) (fun _ => rfl) (egs_cons (fun _ _ _ p q => pgs_cons p q) (eg_name 3 sc_law.nd rfl (Or.inl rfl) (.inl rfl)) (egs_cons (fun _ _ _ p q => pgs_cons p q) (eg_name 4 sc_law.nd rfl (Or.inl rfl) (.inl rfl)) egs_nil)))) ?_
    show Ex _ _ [.scr v_script, .un, .un, .dat (e_t2t2iit2ii ((2, 1), (1, 1))), .dat (e_t2ii (0, 5)), .un, .un] _ _
    refine ex_cons (ss_set 5 sc_law.nd rfl (Or.inl rfl) (.inl rfl) (fun _ => rfl) (ee_lst (ea_cons (fun _ _ _ p q => pa_cons p q) (ee_tup (ea_cons (fun _ _ _ p q => pa_cons p q) (ee_var 3 rfl (Or.inl rfl) rfl) (ea_cons (fun _ _ _ p q => pa_cons p q) (ee_var 4 rfl (Or.inl rfl) rfl) ea_nil)) rfl (lnOk 2 rfl (by decide))) (ea_cons (fun _ _ _ p q => pa_cons p q) (ee_tup (ea_cons (fun _ _ _ p q => pa_cons p q) (ee_tup (ea_cons (fun _ _ _ p q => pa_cons p q) (ee_tup (ea_cons (fun _ _ _ p q => pa_cons p q) ee_int (ea_cons (fun _ _ _ p q => pa_cons p q) ee_int ea_nil)) rfl (lnOk 2 rfl (by decide))) (ea_cons (fun _ _ _ p q => pa_cons p q) (ee_tup (ea_cons (fun _ _ _ p q => pa_cons p q) ee_int (ea_cons (fun _ _ _ p q => pa_cons p q) ee_int ea_nil)) rfl (lnOk 2 rfl (by decide))) ea_nil)) rfl (lnOk 2 rfl (by decide))) (ea_cons (fun _ _ _ p q => pa_cons p q) (ee_var 4 rfl (Or.inl rfl) rfl) ea_nil)) rfl (lnOk 2 rfl (by decide))) (ea_cons (fun _ _ _ p q => pa_cons p q) (ee_tup (ea_cons (fun _ _ _ p q => pa_cons p q) (ee_tup (ea_cons (fun _ _ _ p q => pa_cons p q) (ee_tup (ea_cons (fun _ _ _ p q => pa_cons p q) ee_int (ea_cons (fun _ _ _ p q => pa_cons p q) ee_int ea_nil)) rfl (lnOk 2 rfl (by decide))) (ea_cons (fun _ _ _ p q => pa_cons p q) (ee_tup (ea_cons (fun _ _ _ p q => pa_cons p q) ee_int (ea_cons (fun _ _ _ p q => pa_cons p q) ee_int ea_nil)) rfl (lnOk 2 rfl (by decide))) ea_nil)) rfl (lnOk 2 rfl (by decide))) (ea_cons (fun _ _ _ p q => pa_cons p q) (ee_var 4 rfl (Or.inl rfl) rfl) ea_nil)) rfl (lnOk 2 rfl (by decide))) (ea_cons (fun _ _ _ p q => pa_cons p q) (ee_tup (ea_cons (fun _ _ _ p q => pa_cons p q) (ee_tup (ea_cons (fun _ _ _ p q => pa_cons p q) (ee_tup (ea_cons (fun _ _ _ p q => pa_cons p q) ee_int (ea_cons (fun _ _ _ p q => pa_cons p q) ee_int ea_nil)) rfl (lnOk 2 rfl (by decide))) (ea_cons (fun _ _ _ p q => pa_cons p q) (ee_tup (ea_cons (fun _ _ _ p q => pa_cons p q) ee_int (ea_cons (fun _ _ _ p q => pa_cons p q) ee_int ea_nil)) rfl (lnOk 2 rfl (by decide))) ea_nil)) rfl (lnOk 2 rfl (by decide))) (ea_cons (fun _ _ _ p q => pa_cons p q) (ee_var 4 rfl (Or.inl rfl) rfl) ea_nil)) rfl (lnOk 2 rfl (by decide))) (ea_cons (fun _ _ _ p q => pa_cons p q) (ee_tup (ea_cons (fun _ _ _ p q => pa_cons p q) (ee_listT T.list (by rfl) (ea_cons (fun _ _ _ p q => pa_cons p q) (ee_var 3 rfl (Or.inl rfl) rfl) ea_nil)) (ea_cons (fun _ _ _ p q => pa_cons p q) (ee_var 4 rfl (Or.inl rfl) rfl) ea_nil)) rfl (lnOk 2 rfl (by decide))) (ea_cons (fun _ _ _ p q => pa_cons p q) (ee_tup (ea_cons (fun _ _ _ p q => pa_cons p q) (ee_var 3 rfl (Or.inl rfl) rfl) (ea_cons (fun _ _ _ p q => pa_cons p q) (ee_lst (ea_cons (fun _ _ _ p q => pa_cons p q) ee_int (ea_cons (fun _ _ _ p q => pa_cons p q) ee_int ea_nil)) rfl (lnOk 2 rfl (by decide))) ea_nil)) rfl (lnOk 2 rfl (by decide))) (ea_cons (fun _ _ _ p q => pa_cons p q) (ee_tup (ea_cons (fun _ _ _ p q => pa_cons p q) (ee_var 3 rfl (Or.inl rfl) rfl) (ea_cons (fun _ _ _ p q => pa_cons p q) (ee_tup (ea_cons (fun _ _ _ p q => pa_cons p q) ee_int (ea_cons (fun _ _ _ p q => pa_cons p q) ee_int (ea_cons (fun _ _ _ p q => pa_cons p q) ee_int ea_nil))) rfl (lnOk 3 rfl (by decide))) ea_nil)) rfl (lnOk 2 rfl (by decide))) (ea_cons (fun _ _ _ p q => pa_cons p q) (ee_tup (ea_cons (fun _ _ _ p q => pa_cons p q) (ee_var 3 rfl (Or.inl rfl) rfl) ea_nil) rfl (lnOk 1 rfl (by decide))) ea_nil)))))))) rfl (lnOk 8 rfl (by decide))) rfl) ?_
    show Ex _ _ [.scr v_script, .un, .un, .dat (e_t2t2iit2ii ((2, 1), (1, 1))), .dat (e_t2ii (0, 5)), .dat (e_v8t2t2t2iit2iit2iit2t2t2iit2iit2iit2t2t2iit2iit2iit2t2t2iit2iit2iit2v2t2iit2iit2iit2t2t2iit2iiv2iit2t2t2iit2iit3iiit1t2t2iit2ii ((((2, 1), (1, 1)), (0, 5)), (((0, 1), (1, 0)), (0, 5)), (((2, 1), (1, 2)), (0, 5)), (((2, 0), (0, 1)), (0, 5)), (((2, 1), (1, 1)), (0, 5)), (((2, 1), (1, 1)), (0, 5)), (((2, 1), (1, 1)), (0, 5, 1)), ((2, 1), (1, 1)))), .un] _ _
    refine ex_cons (ss_set 5 sc_law.nd rfl (Or.inl rfl) (.inl rfl) (fun _ => rfl) (ee_cat (ys := [(e_t2t2t2bit2iit2ii (((true, 0), (0, 1)), (0, 5))), (e_t2t2t2iit2iit2bi (((2, 1), (1, 1)), (false, 0))), (e_t2t1t2iit2ii (((2, 1), (1, 1)).1, (0, 5))), (e_t2t2t3iiit3iiit2ii (((1, 0, 0), (0, 1, 0)), (0, 5))), (e_t2t2t2iit2iit2t2iii (((2, 1), (1, 1)), ((0, 1), 5))), .none, (.str (Str.ofString "move")), (e_t2t2t2iit2iit2ii (((1, 100000000000000000000000000000000000000000000000000000000000), (0, 1)), (0, 5)))]) (xs := [(e_t2t2t2iit2iit2ii (((2, 1), (1, 1)), (0, 5))), (e_t2t2t2iit2iit2ii (((0, 1), (1, 0)), (0, 5))), (e_t2t2t2iit2iit2ii (((2, 1), (1, 2)), (0, 5))), (e_t2t2t2iit2iit2ii (((2, 0), (0, 1)), (0, 5))), (e_t2v2t2iit2iit2ii (((2, 1), (1, 1)), (0, 5))), (e_t2t2t2iit2iiv2ii (((2, 1), (1, 1)), (0, 5))), (e_t2t2t2iit2iit3iii (((2, 1), (1, 1)), (0, 5, 1))), (e_t1t2t2iit2ii ((2, 1), (1, 1)))]) (zs := [(e_t2t2t2iit2iit2ii (((2, 1), (1, 1)), (0, 5))), (e_t2t2t2iit2iit2ii (((0, 1), (1, 0)), (0, 5))), (e_t2t2t2iit2iit2ii (((2, 1), (1, 2)), (0, 5))), (e_t2t2t2iit2iit2ii (((2, 0), (0, 1)), (0, 5))), (e_t2v2t2iit2iit2ii (((2, 1), (1, 1)), (0, 5))), (e_t2t2t2iit2iiv2ii (((2, 1), (1, 1)), (0, 5))), (e_t2t2t2iit2iit3iii (((2, 1), (1, 1)), (0, 5, 1))), (e_t1t2t2iit2ii ((2, 1), (1, 1))), (e_t2t2t2bit2iit2ii (((true, 0), (0, 1)), (0, 5))), (e_t2t2t2iit2iit2bi (((2, 1), (1, 1)), (false, 0))), (e_t2t1t2iit2ii (((2, 1), (1, 1)).1, (0, 5))), (e_t2t2t3iiit3iiit2ii (((1, 0, 0), (0, 1, 0)), (0, 5))), (e_t2t2t2iit2iit2t2iii (((2, 1), (1, 1)), ((0, 1), 5))), .none, (.str (Str.ofString "move")), (e_t2t2t2iit2iit2ii (((1, 100000000000000000000000000000000000000000000000000000000000), (0, 1)), (0, 5)))]) (fun d : D => d) (ee_var 5 rfl (Or.inl rfl) rfl) (ee_lst (ea_cons (fun _ _ _ p q => pa_cons p q) (ee_tup (ea_cons (fun _ _ _ p q => pa_cons p q) (ee_tup (ea_cons (fun _ _ _ p q => pa_cons p q) (ee_tup (ea_cons (fun _ _ _ p q => pa_cons p q) ee_bool (ea_cons (fun _ _ _ p q => pa_cons p q) ee_int ea_nil)) rfl (lnOk 2 rfl (by decide))) (ea_cons (fun _ _ _ p q => pa_cons p q) (ee_tup (ea_cons (fun _ _ _ p q => pa_cons p q) ee_int (ea_cons (fun _ _ _ p q => pa_cons p q) ee_int ea_nil)) rfl (lnOk 2 rfl (by decide))) ea_nil)) rfl (lnOk 2 rfl (by decide))) (ea_cons (fun _ _ _ p q => pa_cons p q) (ee_var 4 rfl (Or.inl rfl) rfl) ea_nil)) rfl (lnOk 2 rfl (by decide))) (ea_cons (fun _ _ _ p q => pa_cons p q) (ee_tup (ea_cons (fun _ _ _ p q => pa_cons p q) (ee_var 3 rfl (Or.inl rfl) rfl) (ea_cons (fun _ _ _ p q => pa_cons p q) (ee_tup (ea_cons (fun _ _ _ p q => pa_cons p q) ee_bool (ea_cons (fun _ _ _ p q => pa_cons p q) ee_int ea_nil)) rfl (lnOk 2 rfl (by decide))) ea_nil)) rfl (lnOk 2 rfl (by decide))) (ea_cons (fun _ _ _ p q => pa_cons p q) (ee_tup (ea_cons (fun _ _ _ p q => pa_cons p q) (ee_tup (ea_cons (fun _ _ _ p q => pa_cons p q) (ee_ixT (fun X _ _ p q => pe_ix ix_tup p q (fun _ _ => rfl)) (ee_var 3 rfl (Or.inl rfl) rfl) ee_int (by rfl)) ea_nil) rfl (lnOk 1 rfl (by decide))) (ea_cons (fun _ _ _ p q => pa_cons p q) (ee_var 4 rfl (Or.inl rfl) rfl) ea_nil)) rfl (lnOk 2 rfl (by decide))) (ea_cons (fun _ _ _ p q => pa_cons p q) (ee_tup (ea_cons (fun _ _ _ p q => pa_cons p q) (ee_tup (ea_cons (fun _ _ _ p q => pa_cons p q) (ee_tup (ea_cons (fun _ _ _ p q => pa_cons p q) ee_int (ea_cons (fun _ _ _ p q => pa_cons p q) ee_int (ea_cons (fun _ _ _ p q => pa_cons p q) ee_int ea_nil))) rfl (lnOk 3 rfl (by decide))) (ea_cons (fun _ _ _ p q => pa_cons p q) (ee_tup (ea_cons (fun _ _ _ p q => pa_cons p q) ee_int (ea_cons (fun _ _ _ p q => pa_cons p q) ee_int (ea_cons (fun _ _ _ p q => pa_cons p q) ee_int ea_nil))) rfl (lnOk 3 rfl (by decide))) ea_nil)) rfl (lnOk 2 rfl (by decide))) (ea_cons (fun _ _ _ p q => pa_cons p q) (ee_var 4 rfl (Or.inl rfl) rfl) ea_nil)) rfl (lnOk 2 rfl (by decide))) (ea_cons (fun _ _ _ p q => pa_cons p q) (ee_tup (ea_cons (fun _ _ _ p q => pa_cons p q) (ee_var 3 rfl (Or.inl rfl) rfl) (ea_cons (fun _ _ _ p q => pa_cons p q) (ee_tup (ea_cons (fun _ _ _ p q => pa_cons p q) (ee_tup (ea_cons (fun _ _ _ p q => pa_cons p q) ee_int (ea_cons (fun _ _ _ p q => pa_cons p q) ee_int ea_nil)) rfl (lnOk 2 rfl (by decide))) (ea_cons (fun _ _ _ p q => pa_cons p q) ee_int ea_nil)) rfl (lnOk 2 rfl (by decide))) ea_nil)) rfl (lnOk 2 rfl (by decide))) (ea_cons (fun _ _ _ p q => pa_cons p q) ee_none (ea_cons (fun _ _ _ p q => pa_cons p q) ee_str (ea_cons (fun _ _ _ p q => pa_cons p q) (ee_tup (ea_cons (fun _ _ _ p q => pa_cons p q) (ee_tup (ea_cons (fun _ _ _ p q => pa_cons p q) (ee_tup (ea_cons (fun _ _ _ p q => pa_cons p q) ee_int (ea_cons (fun _ _ _ p q => pa_cons p q) (ee_powC (i := 10) (j := 59) (k := 100000000000000000000000000000000000000000000000000000000000) ee_int ee_int (cpow_ok rfl) (by decide +kernel)) ea_nil)) rfl (lnOk 2 rfl (by decide))) (ea_cons (fun _ _ _ p q => pa_cons p q) (ee_tup (ea_cons (fun _ _ _ p q => pa_cons p q) ee_int (ea_cons (fun _ _ _ p q => pa_cons p q) ee_int ea_nil)) rfl (lnOk 2 rfl (by decide))) ea_nil)) rfl (lnOk 2 rfl (by decide))) (ea_cons (fun _ _ _ p q => pa_cons p q) (ee_var 4 rfl (Or.inl rfl) rfl) ea_nil)) rfl (lnOk 2 rfl (by decide))) ea_nil)))))))) rfl (lnOk 8 rfl (by decide))) rfl rfl (catO_ok 16 rfl rfl (by decide))) rfl) ?_
    show Ex _ _ [.scr v_script, .un, .un, .dat (e_t2t2iit2ii ((2, 1), (1, 1))), .dat (e_t2ii (0, 5)), .dat (e_v16t2t2t2iit2iit2iit2t2t2iit2iit2iit2t2t2iit2iit2iit2t2t2iit2iit2iit2v2t2iit2iit2iit2t2t2iit2iiv2iit2t2t2iit2iit3iiit1t2t2iit2iit2t2t2bit2iit2iit2t2t2iit2iit2bit2t1t2iit2iit2t2t3iiit3iiit2iit2t2t2iit2iit2t2iiinst2t2t2iit2iit2ii ((((2, 1), (1, 1)), (0, 5)), (((0, 1), (1, 0)), (0, 5)), (((2, 1), (1, 2)), (0, 5)), (((2, 0), (0, 1)), (0, 5)), (((2, 1), (1, 1)), (0, 5)), (((2, 1), (1, 1)), (0, 5)), (((2, 1), (1, 1)), (0, 5, 1)), ((2, 1), (1, 1)), (((true, 0), (0, 1)), (0, 5)), (((2, 1), (1, 1)), (false, 0)), (((2, 1), (1, 1)).1, (0, 5)), (((1, 0, 0), (0, 1, 0)), (0, 5)), (((2, 1), (1, 1)), ((0, 1), 5)), (), (Str.ofString "move"), (((1, 100000000000000000000000000000000000000000000000000000000000), (0, 1)), (0, 5)))), .un] _ _
    obtain ⟨t20, ht20, h⟩ := bindS h
    obtain ⟨t25, ht25, h⟩ := bindS h
    obtain ⟨t26, ht26, h⟩ := bindS h
    obtain ⟨t27, ht27, h⟩ := bindS h
    obtain ⟨t28, ht28, h⟩ := bindS h
    obtain ⟨t29, ht29, h⟩ := bindS h
    obtain rfl := someS h
    exact ex_out (ss_ret (ee_eqO (nobehind _ (by decide) (by decide)) (ee_lcP [("value", 6)] (fun d : D => d) PyData.bool ([(e_t2t2t2iit2iit2ii (((2, 1), (1, 1)), (0, 5))), (e_t2t2t2iit2iit2ii (((0, 1), (1, 0)), (0, 5))), (e_t2t2t2iit2iit2ii (((2, 1), (1, 2)), (0, 5))), (e_t2t2t2iit2iit2ii (((2, 0), (0, 1)), (0, 5))), (e_t2v2t2iit2iit2ii (((2, 1), (1, 1)), (0, 5))), (e_t2t2t2iit2iiv2ii (((2, 1), (1, 1)), (0, 5))), (e_t2t2t2iit2iit3iii (((2, 1), (1, 1)), (0, 5, 1))), (e_t1t2t2iit2ii ((2, 1), (1, 1))), (e_t2t2t2bit2iit2ii (((true, 0), (0, 1)), (0, 5))), (e_t2t2t2iit2iit2bi (((2, 1), (1, 1)), (false, 0))), (e_t2t1t2iit2ii (((2, 1), (1, 1)).1, (0, 5))), (e_t2t2t3iiit3iiit2ii (((1, 0, 0), (0, 1, 0)), (0, 5))), (e_t2t2t2iit2iit2t2iii (((2, 1), (1, 1)), ((0, 1), 5))), .none, (.str (Str.ofString "move")), (e_t2t2t2iit2iit2ii (((1, 100000000000000000000000000000000000000000000000000000000000), (0, 1)), (0, 5)))] : List D) _ sc_law.nd (blkOk_by (N := nm_law) (sc := defScope s_law) (by decide +kernel)) (fun _ _ => rfl) (it_D (it_list (fun X _ h => pi_list h) (ee_var 5 rfl (Or.inl rfl) rfl) rfl)) (fun _ => rfl) (by first | exact Nat.le_refl _ | (simp only [List.length_append, MD_len, M2_len, List.length_cons, List.length_nil, Sx.blk]; omega)) (fun x21 _ y23 ex g22 => by obtain ⟨t24, ht24, g22⟩ := bindS g22; obtain rfl := someS g22; exact ⟨_, _, by decide, (eg_name 6 sc_law.nd rfl (Or.inl rfl) (.inr rfl)), _, (ee_call g_is_whole_move (Nat.le_of_ble_eq_true rfl) (by rfl) (ea_cons (fun _ _ _ p q => pa_cons p q) (ee_var 6 rfl (Or.inl rfl) rfl) ea_nil) ⟨x21, rfl, rfl, t24, ht24, rfl⟩ (mu_dat mu_nil)), rfl⟩) ht25 (szO_some ht20).1) (ee_cat (xs := t27) (ys := [true]) PyData.bool (ee_cat (xs := [true, true]) (ys := t26) PyData.bool (ee_lst (ea_cons (fun _ _ _ p q => pa_cons p q) ee_bool (ea_cons (fun _ _ _ p q => pa_cons p q) ee_bool ea_nil)) rfl (lnOk 2 rfl (by decide))) (ee_rep PyData.bool (ee_lst (ea_cons (fun _ _ _ p q => pa_cons p q) ee_bool ea_nil) rfl (lnOk 1 rfl (by decide))) ee_int ht26) rfl rfl ht27) (ee_lst (ea_cons (fun _ _ _ p q => pa_cons p q) ee_bool ea_nil) rfl (lnOk 1 rfl (by decide))) rfl rfl ht28) rfl rfl ht29)) rfl fin_dat
  · refine ex_cons Fo19 ?_
    refine ex_cons (ss_asgS (fun _ => rfl) (fun X hX => (sw_env (env' := env0 (defScope s_law)) hX.sc _ _).trans rfl) (fun _ => rfl) (ee_tup (ea_cons (fun _ _ _ p q => pa_cons p q) (ee_tup (ea_cons (fun _ _ _ p q => pa_cons p q) (ee_tup (ea_cons (fun _ _ _ p q => pa_cons p q) ee_int (ea_cons (fun _ _ _ p q => pa_cons p q) ee_int ea_nil)) rfl (lnOk 2 rfl (by decide))) (ea_cons (fun _ _ _ p q => pa_cons p q) (ee_tup (ea_cons (fun _ _ _ p q => pa_cons p q) ee_int (ea_cons (fun _ _ _ p q => pa_cons p q) ee_int ea_nil)) rfl (lnOk 2 rfl (by decide))) ea_nil)) rfl (lnOk 2 rfl (by decide))) (ea_cons (fun _ _ _ p q => pa_cons p q) (ee_tup (ea_cons (fun _ _ _ p q => pa_cons p q) ee_int (ea_cons (fun _ _ _ p q => pa_cons p q) ee_int ea_nil)) rfl (lnOk 2 rfl (by decide))) ea_nil)) rfl (lnOk 2 rfl (by decide))) rfl (eg_tup (fun _ => rfl) (fun _ => rfl) (egs_cons (fun _ _ _ p q => pgs_cons p q) (eg_name 3 sc_law.nd rfl (Or.inl rfl) (.inl rfl)) (egs_cons (fun _ _ _ p q => pgs_cons p q) (eg_name 4 sc_law.nd rfl (Or.inl rfl) (.inl rfl)) egs_nil)))) ?_
    show Ex _ _ [.scr v_script, .un, .un, .dat (e_t2t2iit2ii ((2, 1), (1, 1))), .dat (e_t2ii (0, 5)), .un, .un] _ _
    refine ex_cons (ss_set 5 sc_law.nd rfl (Or.inl rfl) (.inl rfl) (fun _ => rfl) (ee_lst (ea_cons (fun _ _ _ p q => pa_cons p q) (ee_tup (ea_cons (fun _ _ _ p q => pa_cons p q) (ee_var 3 rfl (Or.inl rfl) rfl) (ea_cons (fun _ _ _ p q => pa_cons p q) (ee_var 4 rfl (Or.inl rfl) rfl) ea_nil)) rfl (lnOk 2 rfl (by decide))) (ea_cons (fun _ _ _ p q => pa_cons p q) (ee_tup (ea_cons (fun _ _ _ p q => pa_cons p q) (ee_tup (ea_cons (fun _ _ _ p q => pa_cons p q) (ee_tup (ea_cons (fun _ _ _ p q => pa_cons p q) ee_int (ea_cons (fun _ _ _ p q => pa_cons p q) ee_int ea_nil)) rfl (lnOk 2 rfl (by decide))) (ea_cons (fun _ _ _ p q => pa_cons p q) (ee_tup (ea_cons (fun _ _ _ p q => pa_cons p q) ee_int (ea_cons (fun _ _ _ p q => pa_cons p q) ee_int ea_nil)) rfl (lnOk 2 rfl (by decide))) ea_nil)) rfl (lnOk 2 rfl (by decide))) (ea_cons (fun _ _ _ p q => pa_cons p q) (ee_var 4 rfl (Or.inl rfl) rfl) ea_nil)) rfl (lnOk 2 rfl (by decide))) (ea_cons (fun _ _ _ p q => pa_cons p q) (ee_tup (ea_cons (fun _ _ _ p q => pa_cons p q) (ee_tup (ea_cons (fun _ _ _ p q => pa_cons p q) (ee_tup (ea_cons (fun _ _ _ p q => pa_cons p q) ee_int (ea_cons (fun _ _ _ p q => pa_cons p q) ee_int ea_nil)) rfl (lnOk 2 rfl (by decide))) (ea_cons (fun _ _ _ p q => pa_cons p q) (ee_tup (ea_cons (fun _ _ _ p q => pa_cons p q) ee_int (ea_cons (fun _ _ _ p q => pa_cons p q) ee_int ea_nil)) rfl (lnOk 2 rfl (by decide))) ea_nil)) rfl (lnOk 2 rfl (by decide))) (ea_cons (fun _ _ _ p q => pa_cons p q) (ee_var 4 rfl (Or.inl rfl) rfl) ea_nil)) rfl (lnOk 2 rfl (by decide))) (ea_cons (fun _ _ _ p q => pa_cons p q) (ee_tup (ea_cons (fun _ _ _ p q => pa_cons p q) (ee_tup (ea_cons (fun _ _ _ p q => pa_cons p q) (ee_tup (ea_cons (fun _ _ _ p q => pa_cons p q) ee_int (ea_cons (fun _ _ _ p q => pa_cons p q) ee_int ea_nil)) rfl (lnOk 2 rfl (by decide))) (ea_cons (fun _ _ _ p q => pa_cons p q) (ee_tup (ea_cons (fun _ _ _ p q => pa_cons p q) ee_int (ea_cons (fun _ _ _ p q => pa_cons p q) ee_int ea_nil)) rfl (lnOk 2 rfl (by decide))) ea_nil)) rfl (lnOk 2 rfl (by decide))) (ea_cons (fun _ _ _ p q => pa_cons p q) (ee_var 4 rfl (Or.inl rfl) rfl) ea_nil)) rfl (lnOk 2 rfl (by decide))) (ea_cons (fun _ _ _ p q => pa_cons p q) (ee_tup (ea_cons (fun _ _ _ p q => pa_cons p q) (ee_listT T.list (by rfl) (ea_cons (fun _ _ _ p q => pa_cons p q) (ee_var 3 rfl (Or.inl rfl) rfl) ea_nil)) (ea_cons (fun _ _ _ p q => pa_cons p q) (ee_var 4 rfl (Or.inl rfl) rfl) ea_nil)) rfl (lnOk 2 rfl (by decide))) (ea_cons (fun _ _ _ p q => pa_cons p q) (ee_tup (ea_cons (fun _ _ _ p q => pa_cons p q) (ee_var 3 rfl (Or.inl rfl) rfl) (ea_cons (fun _ _ _ p q => pa_cons p q) (ee_lst (ea_cons (fun _ _ _ p q => pa_cons p q) ee_int (ea_cons (fun _ _ _ p q => pa_cons p q) ee_int ea_nil)) rfl (lnOk 2 rfl (by decide))) ea_nil)) rfl (lnOk 2 rfl (by decide))) (ea_cons (fun _ _ _ p q => pa_cons p q) (ee_tup (ea_cons (fun _ _ _ p q => pa_cons p q) (ee_var 3 rfl (Or.inl rfl) rfl) (ea_cons (fun _ _ _ p q => pa_cons p q) (ee_tup (ea_cons (fun _ _ _ p q => pa_cons p q) ee_int (ea_cons (fun _ _ _ p q => pa_cons p q) ee_int (ea_cons (fun _ _ _ p q => pa_cons p q) ee_int ea_nil))) rfl (lnOk 3 rfl (by decide))) ea_nil)) rfl (lnOk 2 rfl (by decide))) (ea_cons (fun _ _ _ p q => pa_cons p q) (ee_tup (ea_cons (fun _ _ _ p q => pa_cons p q) (ee_var 3 rfl (Or.inl rfl) rfl) ea_nil) rfl (lnOk 1 rfl (by decide))) ea_nil)))))))) rfl (lnOk 8 rfl (by decide))) rfl) ?_
    show Ex _ _ [.scr v_script, .un, .un, .dat (e_t2t2iit2ii ((2, 1), (1, 1))), .dat (e_t2ii (0, 5)), .dat (e_v8t2t2t2iit2iit2iit2t2t2iit2iit2iit2t2t2iit2iit2iit2t2t2iit2iit2iit2v2t2iit2iit2iit2t2t2iit2iiv2iit2t2t2iit2iit3iiit1t2t2iit2ii ((((2, 1), (1, 1)), (0, 5)), (((0, 1), (1, 0)), (0, 5)), (((2, 1), (1, 2)), (0, 5)), (((2, 0), (0, 1)), (0, 5)), (((2, 1), (1, 1)), (0, 5)), (((2, 1), (1, 1)), (0, 5)), (((2, 1), (1, 1)), (0, 5, 1)), ((2, 1), (1, 1)))), .un] _ _
    refine ex_cons (ss_set 5 sc_law.nd rfl (Or.inl rfl) (.inl rfl) (fun _ => rfl) (ee_cat (ys := [(e_t2t2t2bit2iit2ii (((true, 0), (0, 1)), (0, 5))), (e_t2t2t2iit2iit2bi (((2, 1), (1, 1)), (false, 0))), (e_t2t1t2iit2ii (((2, 1), (1, 1)).1, (0, 5))), (e_t2t2t3iiit3iiit2ii (((1, 0, 0), (0, 1, 0)), (0, 5))), (e_t2t2t2iit2iit2t2iii (((2, 1), (1, 1)), ((0, 1), 5))), .none, (.str (Str.ofString "move")), (e_t2t2t2iit2iit2ii (((1, 100000000000000000000000000000000000000000000000000000000000), (0, 1)), (0, 5)))]) (xs := [(e_t2t2t2iit2iit2ii (((2, 1), (1, 1)), (0, 5))), (e_t2t2t2iit2iit2ii (((0, 1), (1, 0)), (0, 5))), (e_t2t2t2iit2iit2ii (((2, 1), (1, 2)), (0, 5))), (e_t2t2t2iit2iit2ii (((2, 0), (0, 1)), (0, 5))), (e_t2v2t2iit2iit2ii (((2, 1), (1, 1)), (0, 5))), (e_t2t2t2iit2iiv2ii (((2, 1), (1, 1)), (0, 5))), (e_t2t2t2iit2iit3iii (((2, 1), (1, 1)), (0, 5, 1))), (e_t1t2t2iit2ii ((2, 1), (1, 1)))]) (zs := [(e_t2t2t2iit2iit2ii (((2, 1), (1, 1)), (0, 5))), (e_t2t2t2iit2iit2ii (((0, 1), (1, 0)), (0, 5))), (e_t2t2t2iit2iit2ii (((2, 1), (1, 2)), (0, 5))), (e_t2t2t2iit2iit2ii (((2, 0), (0, 1)), (0, 5))), (e_t2v2t2iit2iit2ii (((2, 1), (1, 1)), (0, 5))), (e_t2t2t2iit2iiv2ii (((2, 1), (1, 1)), (0, 5))), (e_t2t2t2iit2iit3iii (((2, 1), (1, 1)), (0, 5, 1))), (e_t1t2t2iit2ii ((2, 1), (1, 1))), (e_t2t2t2bit2iit2ii (((true, 0), (0, 1)), (0, 5))), (e_t2t2t2iit2iit2bi (((2, 1), (1, 1)), (false, 0))), (e_t2t1t2iit2ii (((2, 1), (1, 1)).1, (0, 5))), (e_t2t2t3iiit3iiit2ii (((1, 0, 0), (0, 1, 0)), (0, 5))), (e_t2t2t2iit2iit2t2iii (((2, 1), (1, 1)), ((0, 1), 5))), .none, (.str (Str.ofString "move")), (e_t2t2t2iit2iit2ii (((1, 100000000000000000000000000000000000000000000000000000000000), (0, 1)), (0, 5)))]) (fun d : D => d) (ee_var 5 rfl (Or.inl rfl) rfl) (ee_lst (ea_cons (fun _ _ _ p q => pa_cons p q) (ee_tup (ea_cons (fun _ _ _ p q => pa_cons p q) (ee_tup (ea_cons (fun _ _ _ p q => pa_cons p q) (ee_tup (ea_cons (fun _ _ _ p q => pa_cons p q) ee_bool (ea_cons (fun _ _ _ p q => pa_cons p q) ee_int ea_nil)) rfl (lnOk 2 rfl (by decide))) (ea_cons (fun _ _ _ p q => pa_cons p q) (ee_tup (ea_cons (fun _ _ _ p q => pa_cons p q) ee_int (ea_cons (fun _ _ _ p q => pa_cons p q) ee_int ea_nil)) rfl (lnOk 2 rfl (by decide))) ea_nil)) rfl (lnOk 2 rfl (by decide))) (ea_cons (fun _ _ _ p q => pa_cons p q) (ee_var 4 rfl (Or.inl rfl) rfl) ea_nil)) rfl (lnOk 2 rfl (by decide))) (ea_cons (fun _ _ _ p q => pa_cons p q) (ee_tup (ea_cons (fun _ _ _ p q => pa_cons p q) (ee_var 3 rfl (Or.inl rfl) rfl) (ea_cons (fun _ _ _ p q => pa_cons p q) (ee_tup (ea_cons (fun _ _ _ p q => pa_cons p q) ee_bool (ea_cons (fun _ _ _ p q => pa_cons p q) ee_int ea_nil)) rfl (lnOk 2 rfl (by decide))) ea_nil)) rfl (lnOk 2 rfl (by decide))) (ea_cons (fun _ _ _ p q => pa_cons p q) (ee_tup (ea_cons (fun _ _ _ p q => pa_cons p q) (ee_tup (ea_cons (fun _ _ _ p q => pa_cons p q) (ee_ixT (fun X _ _ p q => pe_ix ix_tup p q (fun _ _ => rfl)) (ee_var 3 rfl (Or.inl rfl) rfl) ee_int (by rfl)) ea_nil) rfl (lnOk 1 rfl (by decide))) (ea_cons (fun _ _ _ p q => pa_cons p q) (ee_var 4 rfl (Or.inl rfl) rfl) ea_nil)) rfl (lnOk 2 rfl (by decide))) (ea_cons (fun _ _ _ p q => pa_cons p q) (ee_tup (ea_cons (fun _ _ _ p q => pa_cons p q) (ee_tup (ea_cons (fun _ _ _ p q => pa_cons p q) (ee_tup (ea_cons (fun _ _ _ p q => pa_cons p q) ee_int (ea_cons (fun _ _ _ p q => pa_cons p q) ee_int (ea_cons (fun _ _ _ p q => pa_cons p q) ee_int ea_nil))) rfl (lnOk 3 rfl (by decide))) (ea_cons (fun _ _ _ p q => pa_cons p q) (ee_tup (ea_cons (fun _ _ _ p q => pa_cons p q) ee_int (ea_cons (fun _ _ _ p q => pa_cons p q) ee_int (ea_cons (fun _ _ _ p q => pa_cons p q) ee_int ea_nil))) rfl (lnOk 3 rfl (by decide))) ea_nil)) rfl (lnOk 2 rfl (by decide))) (ea_cons (fun _ _ _ p q => pa_cons p q) (ee_var 4 rfl (Or.inl rfl) rfl) ea_nil)) rfl (lnOk 2 rfl (by decide))) (ea_cons (fun _ _ _ p q => pa_cons p q) (ee_tup (ea_cons (fun _ _ _ p q => pa_cons p q) (ee_var 3 rfl (Or.inl rfl) rfl) (ea_cons (fun _ _ _ p q => pa_cons p q) (ee_tup (ea_cons (fun _ _ _ p q => pa_cons p q) (ee_tup (ea_cons (fun _ _ _ p q => pa_cons p q) ee_int (ea_cons (fun _ _ _ p q => pa_cons p q) ee_int ea_nil)) rfl (lnOk 2 rfl (by decide))) (ea_cons (fun _ _ _ p q => pa_cons p q) ee_int ea_nil)) rfl (lnOk 2 rfl (by decide))) ea_nil)) rfl (lnOk 2 rfl (by decide))) (ea_cons (fun _ _ _ p q => pa_cons p q) ee_none (ea_cons (fun _ _ _ p q => pa_cons p q) ee_str (ea_cons (fun _ _ _ p q => pa_cons p q) (ee_tup (ea_cons (fun _ _ _ p q => pa_cons p q) (ee_tup (ea_cons (fun _ _ _ p q => pa_cons p q) (ee_tup (ea_cons (fun _ _ _ p q => pa_cons p q) ee_int (ea_cons (fun _ _ _ p q => pa_cons p q) (ee_powC (i := 10) (j := 59) (k := 100000000000000000000000000000000000000000000000000000000000) ee_int ee_int (cpow_ok rfl) (by decide +kernel)) ea_nil)) rfl (lnOk 2 rfl (by decide))) (ea_cons (fun _ _ _ p q => pa_cons p q) (ee_tup (ea_cons (fun _ _ _ p q => pa_cons p q) ee_int (ea_cons (fun _ _ _ p q => pa_cons p q) ee_int ea_nil)) rfl (lnOk 2 rfl (by decide))) ea_nil)) rfl (lnOk 2 rfl (by decide))) (ea_cons (fun _ _ _ p q => pa_cons p q) (ee_var 4 rfl (Or.inl rfl) rfl) ea_nil)) rfl (lnOk 2 rfl (by decide))) ea_nil)))))))) rfl (lnOk 8 rfl (by decide))) rfl rfl (catO_ok 16 rfl rfl (by decide))) rfl) ?_
    show Ex _ _ [.scr v_script, .un, .un, .dat (e_t2t2iit2ii ((2, 1), (1, 1))), .dat (e_t2ii (0, 5)), .dat (e_v16t2t2t2iit2iit2iit2t2t2iit2iit2iit2t2t2iit2iit2iit2t2t2iit2iit2iit2v2t2iit2iit2iit2t2t2iit2iiv2iit2t2t2iit2iit3iiit1t2t2iit2iit2t2t2bit2iit2iit2t2t2iit2iit2bit2t1t2iit2iit2t2t3iiit3iiit2iit2t2t2iit2iit2t2iiinst2t2t2iit2iit2ii ((((2, 1), (1, 1)), (0, 5)), (((0, 1), (1, 0)), (0, 5)), (((2, 1), (1, 2)), (0, 5)), (((2, 0), (0, 1)), (0, 5)), (((2, 1), (1, 1)), (0, 5)), (((2, 1), (1, 1)), (0, 5)), (((2, 1), (1, 1)), (0, 5, 1)), ((2, 1), (1, 1)), (((true, 0), (0, 1)), (0, 5)), (((2, 1), (1, 1)), (false, 0)), (((2, 1), (1, 1)).1, (0, 5)), (((1, 0, 0), (0, 1, 0)), (0, 5)), (((2, 1), (1, 1)), ((0, 1), 5)), (), (Str.ofString "move"), (((1, 100000000000000000000000000000000000000000000000000000000000), (0, 1)), (0, 5)))), .un] _ _
    obtain ⟨t20, ht20, h⟩ := bindS h
    obtain ⟨t25, ht25, h⟩ := bindS h
    obtain ⟨t26, ht26, h⟩ := bindS h
    obtain ⟨t27, ht27, h⟩ := bindS h
    obtain ⟨t28, ht28, h⟩ := bindS h
    obtain ⟨t29, ht29, h⟩ := bindS h
    obtain rfl := someS h
    exact ex_out (ss_ret (ee_eqO (nobehind _ (by decide) (by decide)) (ee_lcP [("value", 6)] (fun d : D => d) PyData.bool ([(e_t2t2t2iit2iit2ii (((2, 1), (1, 1)), (0, 5))), (e_t2t2t2iit2iit2ii (((0, 1), (1, 0)), (0, 5))), (e_t2t2t2iit2iit2ii (((2, 1), (1, 2)), (0, 5))), (e_t2t2t2iit2iit2ii (((2, 0), (0, 1)), (0, 5))), (e_t2v2t2iit2iit2ii (((2, 1), (1, 1)), (0, 5))), (e_t2t2t2iit2iiv2ii (((2, 1), (1, 1)), (0, 5))), (e_t2t2t2iit2iit3iii (((2, 1), (1, 1)), (0, 5, 1))), (e_t1t2t2iit2ii ((2, 1), (1, 1))), (e_t2t2t2bit2iit2ii (((true, 0), (0, 1)), (0, 5))), (e_t2t2t2iit2iit2bi (((2, 1), (1, 1)), (false, 0))), (e_t2t1t2iit2ii (((2, 1), (1, 1)).1, (0, 5))), (e_t2t2t3iiit3iiit2ii (((1, 0, 0), (0, 1, 0)), (0, 5))), (e_t2t2t2iit2iit2t2iii (((2, 1), (1, 1)), ((0, 1), 5))), .none, (.str (Str.ofString "move")), (e_t2t2t2iit2iit2ii (((1, 100000000000000000000000000000000000000000000000000000000000), (0, 1)), (0, 5)))] : List D) _ sc_law.nd (blkOk_by (N := nm_law) (sc := defScope s_law) (by decide +kernel)) (fun _ _ => rfl) (it_D (it_list (fun X _ h => pi_list h) (ee_var 5 rfl (Or.inl rfl) rfl) rfl)) (fun _ => rfl) (by first | exact Nat.le_refl _ | (simp only [List.length_append, MD_len, M2_len, List.length_cons, List.length_nil, Sx.blk]; omega)) (fun x21 _ y23 ex g22 => by obtain ⟨t24, ht24, g22⟩ := bindS g22; obtain rfl := someS g22; exact ⟨_, _, by decide, (eg_name 6 sc_law.nd rfl (Or.inl rfl) (.inr rfl)), _, (ee_call g_is_whole_move (Nat.le_of_ble_eq_true rfl) (by rfl) (ea_cons (fun _ _ _ p q => pa_cons p q) (ee_var 6 rfl (Or.inl rfl) rfl) ea_nil) ⟨x21, rfl, rfl, t24, ht24, rfl⟩ (mu_dat mu_nil)), rfl⟩) ht25 (szO_some ht20).1) (ee_cat (xs := t27) (ys := [true]) PyData.bool (ee_cat (xs := [true, true]) (ys := t26) PyData.bool (ee_lst (ea_cons (fun _ _ _ p q => pa_cons p q) ee_bool (ea_cons (fun _ _ _ p q => pa_cons p q) ee_bool ea_nil)) rfl (lnOk 2 rfl (by decide))) (ee_rep PyData.bool (ee_lst (ea_cons (fun _ _ _ p q => pa_cons p q) ee_bool ea_nil) rfl (lnOk 1 rfl (by decide))) ee_int ht26) rfl rfl ht27) (ee_lst (ea_cons (fun _ _ _ p q => pa_cons p q) ee_bool ea_nil) rfl (lnOk 1 rfl (by decide))) rfl rfl ht28) rfl rfl ht29)) rfl fin_dat
  · obtain rfl := someS h
    exact ex_out Fo19 rfl (by show Fin ms (.rt _ (MD (ms ++ [[]]) ms.length b18.2 ++ [])) _; rw [MD_law]; exact .dat)
end
end Abs
namespace Abs
open PySem PySem.Spec PyProof.Rows L2
theorem all_mk {l : PySem.W.OpenLaw} {w : World} {K : PySem.W.Frag} {h : Heap} {mg : Str → Option Value} {fa f__law_dice f__law_roll f__law_step f__law_drawn f__law_still f_is_within f_is_integer f_are_two f_is_whole_move_of f_require_whole_move f_led_in f_led_rows f_led_behind f__law_made f_is_whole_move f_common f_is_point_of f_is_whole_in f_require_points f_led f_require_rows f_do_lead f_take_in f_clear_in f_form_in f_is_form_like f_is_same_paper f__law_back f__law_undone f_back_rows f_move_in f_same_paper f__law_word_right f__law_one_of f__law_times f__law_again_right f__law_common f_whole_form f__law_pairs_right f_law : Addr} (X : K.In h) (G : h.Ns mainGlobals mg) (hfa : mg "law" = some (.ref fa))
  {od__law_dice an__law_dice : Option Addr} {sl__law_dice : Array (Option Value)} {oc__law_dice kV__law_dice dc__law_dice pm__law_dice cd__law_dice ct__law_dice : Value}
  (a__law_dice : PySem.W.nsIn K mainGlobals "_law_dice" = some (some (.ref f__law_dice))) (l__law_dice : K.lookup f__law_dice = some ⟨oc__law_dice, od__law_dice, .func (PySem.W.fnOf "_law_dice" "_law_dice" (defArgs s__law_dice) (defBody s__law_dice) (defScope s__law_dice) .none kV__law_dice dc__law_dice pm__law_dice an__law_dice cd__law_dice ct__law_dice), sl__law_dice⟩) (c__law_dice : PySem.W.codeIn K cd__law_dice "_law_dice" = true) (k__law_dice : PySem.W.keepIn K (.ref f__law_dice) = true)
  {od__law_roll an__law_roll : Option Addr} {sl__law_roll : Array (Option Value)} {oc__law_roll kV__law_roll dc__law_roll pm__law_roll cd__law_roll ct__law_roll : Value}
  (a__law_roll : PySem.W.nsIn K mainGlobals "_law_roll" = some (some (.ref f__law_roll))) (l__law_roll : K.lookup f__law_roll = some ⟨oc__law_roll, od__law_roll, .func (PySem.W.fnOf "_law_roll" "_law_roll" (defArgs s__law_roll) (defBody s__law_roll) (defScope s__law_roll) .none kV__law_roll dc__law_roll pm__law_roll an__law_roll cd__law_roll ct__law_roll), sl__law_roll⟩) (c__law_roll : PySem.W.codeIn K cd__law_roll "_law_roll" = true) (k__law_roll : PySem.W.keepIn K (.ref f__law_roll) = true)
  {od__law_step an__law_step : Option Addr} {sl__law_step : Array (Option Value)} {oc__law_step kV__law_step dc__law_step pm__law_step cd__law_step ct__law_step : Value}
  (a__law_step : PySem.W.nsIn K mainGlobals "_law_step" = some (some (.ref f__law_step))) (l__law_step : K.lookup f__law_step = some ⟨oc__law_step, od__law_step, .func (PySem.W.fnOf "_law_step" "_law_step" (defArgs s__law_step) (defBody s__law_step) (defScope s__law_step) .none kV__law_step dc__law_step pm__law_step an__law_step cd__law_step ct__law_step), sl__law_step⟩) (c__law_step : PySem.W.codeIn K cd__law_step "_law_step" = true) (k__law_step : PySem.W.keepIn K (.ref f__law_step) = true)
  {od__law_drawn an__law_drawn : Option Addr} {sl__law_drawn : Array (Option Value)} {oc__law_drawn kV__law_drawn dc__law_drawn pm__law_drawn cd__law_drawn ct__law_drawn : Value}
  (a__law_drawn : PySem.W.nsIn K mainGlobals "_law_drawn" = some (some (.ref f__law_drawn))) (l__law_drawn : K.lookup f__law_drawn = some ⟨oc__law_drawn, od__law_drawn, .func (PySem.W.fnOf "_law_drawn" "_law_drawn" (defArgs s__law_drawn) (defBody s__law_drawn) (defScope s__law_drawn) .none kV__law_drawn dc__law_drawn pm__law_drawn an__law_drawn cd__law_drawn ct__law_drawn), sl__law_drawn⟩) (c__law_drawn : PySem.W.codeIn K cd__law_drawn "_law_drawn" = true) (k__law_drawn : PySem.W.keepIn K (.ref f__law_drawn) = true)
  {od__law_still an__law_still : Option Addr} {sl__law_still : Array (Option Value)} {oc__law_still kV__law_still dc__law_still pm__law_still cd__law_still ct__law_still : Value}
  (a__law_still : PySem.W.nsIn K mainGlobals "_law_still" = some (some (.ref f__law_still))) (l__law_still : K.lookup f__law_still = some ⟨oc__law_still, od__law_still, .func (PySem.W.fnOf "_law_still" "_law_still" (defArgs s__law_still) (defBody s__law_still) (defScope s__law_still) .none kV__law_still dc__law_still pm__law_still an__law_still cd__law_still ct__law_still), sl__law_still⟩) (c__law_still : PySem.W.codeIn K cd__law_still "_law_still" = true) (k__law_still : PySem.W.keepIn K (.ref f__law_still) = true)
  {od_is_within an_is_within : Option Addr} {sl_is_within : Array (Option Value)} {oc_is_within kV_is_within dc_is_within pm_is_within cd_is_within ct_is_within : Value}
  (a_is_within : PySem.W.nsIn K mainGlobals "is_within" = some (some (.ref f_is_within))) (l_is_within : K.lookup f_is_within = some ⟨oc_is_within, od_is_within, .func (PySem.W.fnOf "is_within" "is_within" (defArgs s_is_within) (defBody s_is_within) (defScope s_is_within) .none kV_is_within dc_is_within pm_is_within an_is_within cd_is_within ct_is_within), sl_is_within⟩) (c_is_within : PySem.W.codeIn K cd_is_within "is_within" = true) (k_is_within : PySem.W.keepIn K (.ref f_is_within) = true)
  {od_is_integer an_is_integer : Option Addr} {sl_is_integer : Array (Option Value)} {oc_is_integer kV_is_integer dc_is_integer pm_is_integer cd_is_integer ct_is_integer : Value}
  (a_is_integer : PySem.W.nsIn K mainGlobals "is_integer" = some (some (.ref f_is_integer))) (l_is_integer : K.lookup f_is_integer = some ⟨oc_is_integer, od_is_integer, .func (PySem.W.fnOf "is_integer" "is_integer" (defArgs s_is_integer) (defBody s_is_integer) (defScope s_is_integer) .none kV_is_integer dc_is_integer pm_is_integer an_is_integer cd_is_integer ct_is_integer), sl_is_integer⟩) (c_is_integer : PySem.W.codeIn K cd_is_integer "is_integer" = true) (k_is_integer : PySem.W.keepIn K (.ref f_is_integer) = true)
  {od_are_two an_are_two : Option Addr} {sl_are_two : Array (Option Value)} {oc_are_two kV_are_two dc_are_two pm_are_two cd_are_two ct_are_two : Value}
  (a_are_two : PySem.W.nsIn K mainGlobals "are_two" = some (some (.ref f_are_two))) (l_are_two : K.lookup f_are_two = some ⟨oc_are_two, od_are_two, .func (PySem.W.fnOf "are_two" "are_two" (defArgs s_are_two) (defBody s_are_two) (defScope s_are_two) .none kV_are_two dc_are_two pm_are_two an_are_two cd_are_two ct_are_two), sl_are_two⟩) (c_are_two : PySem.W.codeIn K cd_are_two "are_two" = true) (k_are_two : PySem.W.keepIn K (.ref f_are_two) = true)
  {od_is_whole_move_of an_is_whole_move_of : Option Addr} {sl_is_whole_move_of : Array (Option Value)} {oc_is_whole_move_of kV_is_whole_move_of dc_is_whole_move_of pm_is_whole_move_of cd_is_whole_move_of ct_is_whole_move_of : Value}
  (a_is_whole_move_of : PySem.W.nsIn K mainGlobals "is_whole_move_of" = some (some (.ref f_is_whole_move_of))) (l_is_whole_move_of : K.lookup f_is_whole_move_of = some ⟨oc_is_whole_move_of, od_is_whole_move_of, .func (PySem.W.fnOf "is_whole_move_of" "is_whole_move_of" (defArgs s_is_whole_move_of) (defBody s_is_whole_move_of) (defScope s_is_whole_move_of) .none kV_is_whole_move_of dc_is_whole_move_of pm_is_whole_move_of an_is_whole_move_of cd_is_whole_move_of ct_is_whole_move_of), sl_is_whole_move_of⟩) (c_is_whole_move_of : PySem.W.codeIn K cd_is_whole_move_of "is_whole_move_of" = true) (k_is_whole_move_of : PySem.W.keepIn K (.ref f_is_whole_move_of) = true)
  {od_require_whole_move an_require_whole_move : Option Addr} {sl_require_whole_move : Array (Option Value)} {oc_require_whole_move kV_require_whole_move dc_require_whole_move pm_require_whole_move cd_require_whole_move ct_require_whole_move : Value}
  (a_require_whole_move : PySem.W.nsIn K mainGlobals "require_whole_move" = some (some (.ref f_require_whole_move))) (l_require_whole_move : K.lookup f_require_whole_move = some ⟨oc_require_whole_move, od_require_whole_move, .func (PySem.W.fnOf "require_whole_move" "require_whole_move" (defArgs s_require_whole_move) (defBody s_require_whole_move) (defScope s_require_whole_move) .none kV_require_whole_move dc_require_whole_move pm_require_whole_move an_require_whole_move cd_require_whole_move ct_require_whole_move), sl_require_whole_move⟩) (c_require_whole_move : PySem.W.codeIn K cd_require_whole_move "require_whole_move" = true) (k_require_whole_move : PySem.W.keepIn K (.ref f_require_whole_move) = true)
  {od_led_in an_led_in : Option Addr} {sl_led_in : Array (Option Value)} {oc_led_in kV_led_in dc_led_in pm_led_in cd_led_in ct_led_in : Value}
  (a_led_in : PySem.W.nsIn K mainGlobals "led_in" = some (some (.ref f_led_in))) (l_led_in : K.lookup f_led_in = some ⟨oc_led_in, od_led_in, .func (PySem.W.fnOf "led_in" "led_in" (defArgs s_led_in) (defBody s_led_in) (defScope s_led_in) .none kV_led_in dc_led_in pm_led_in an_led_in cd_led_in ct_led_in), sl_led_in⟩) (c_led_in : PySem.W.codeIn K cd_led_in "led_in" = true) (k_led_in : PySem.W.keepIn K (.ref f_led_in) = true)
  {od_led_rows an_led_rows : Option Addr} {sl_led_rows : Array (Option Value)} {oc_led_rows kV_led_rows dc_led_rows pm_led_rows cd_led_rows ct_led_rows : Value}
  (a_led_rows : PySem.W.nsIn K mainGlobals "led_rows" = some (some (.ref f_led_rows))) (l_led_rows : K.lookup f_led_rows = some ⟨oc_led_rows, od_led_rows, .func (PySem.W.fnOf "led_rows" "led_rows" (defArgs s_led_rows) (defBody s_led_rows) (defScope s_led_rows) .none kV_led_rows dc_led_rows pm_led_rows an_led_rows cd_led_rows ct_led_rows), sl_led_rows⟩) (c_led_rows : PySem.W.codeIn K cd_led_rows "led_rows" = true) (k_led_rows : PySem.W.keepIn K (.ref f_led_rows) = true)
  {od_led_behind an_led_behind : Option Addr} {sl_led_behind : Array (Option Value)} {oc_led_behind kV_led_behind dc_led_behind pm_led_behind cd_led_behind ct_led_behind : Value}
  (a_led_behind : PySem.W.nsIn K mainGlobals "led_behind" = some (some (.ref f_led_behind))) (l_led_behind : K.lookup f_led_behind = some ⟨oc_led_behind, od_led_behind, .func (PySem.W.fnOf "led_behind" "led_behind" (defArgs s_led_behind) (defBody s_led_behind) (defScope s_led_behind) .none kV_led_behind dc_led_behind pm_led_behind an_led_behind cd_led_behind ct_led_behind), sl_led_behind⟩) (c_led_behind : PySem.W.codeIn K cd_led_behind "led_behind" = true) (k_led_behind : PySem.W.keepIn K (.ref f_led_behind) = true)
  {od__law_made an__law_made : Option Addr} {sl__law_made : Array (Option Value)} {oc__law_made kV__law_made dc__law_made pm__law_made cd__law_made ct__law_made : Value}
  (a__law_made : PySem.W.nsIn K mainGlobals "_law_made" = some (some (.ref f__law_made))) (l__law_made : K.lookup f__law_made = some ⟨oc__law_made, od__law_made, .func (PySem.W.fnOf "_law_made" "_law_made" (defArgs s__law_made) (defBody s__law_made) (defScope s__law_made) .none kV__law_made dc__law_made pm__law_made an__law_made cd__law_made ct__law_made), sl__law_made⟩) (c__law_made : PySem.W.codeIn K cd__law_made "_law_made" = true) (k__law_made : PySem.W.keepIn K (.ref f__law_made) = true)
  {od_is_whole_move an_is_whole_move : Option Addr} {sl_is_whole_move : Array (Option Value)} {oc_is_whole_move kV_is_whole_move dc_is_whole_move pm_is_whole_move cd_is_whole_move ct_is_whole_move : Value}
  (a_is_whole_move : PySem.W.nsIn K mainGlobals "is_whole_move" = some (some (.ref f_is_whole_move))) (l_is_whole_move : K.lookup f_is_whole_move = some ⟨oc_is_whole_move, od_is_whole_move, .func (PySem.W.fnOf "is_whole_move" "is_whole_move" (defArgs s_is_whole_move) (defBody s_is_whole_move) (defScope s_is_whole_move) .none kV_is_whole_move dc_is_whole_move pm_is_whole_move an_is_whole_move cd_is_whole_move ct_is_whole_move), sl_is_whole_move⟩) (c_is_whole_move : PySem.W.codeIn K cd_is_whole_move "is_whole_move" = true) (k_is_whole_move : PySem.W.keepIn K (.ref f_is_whole_move) = true)
  {od_common an_common : Option Addr} {sl_common : Array (Option Value)} {oc_common kV_common dc_common pm_common cd_common ct_common : Value}
  (a_common : PySem.W.nsIn K mainGlobals "common" = some (some (.ref f_common))) (l_common : K.lookup f_common = some ⟨oc_common, od_common, .func (PySem.W.fnOf "common" "common" (defArgs s_common) (defBody s_common) (defScope s_common) .none kV_common dc_common pm_common an_common cd_common ct_common), sl_common⟩) (c_common : PySem.W.codeIn K cd_common "common" = true) (k_common : PySem.W.keepIn K (.ref f_common) = true)
  {od_is_point_of an_is_point_of : Option Addr} {sl_is_point_of : Array (Option Value)} {oc_is_point_of kV_is_point_of dc_is_point_of pm_is_point_of cd_is_point_of ct_is_point_of : Value}
  (a_is_point_of : PySem.W.nsIn K mainGlobals "is_point_of" = some (some (.ref f_is_point_of))) (l_is_point_of : K.lookup f_is_point_of = some ⟨oc_is_point_of, od_is_point_of, .func (PySem.W.fnOf "is_point_of" "is_point_of" (defArgs s_is_point_of) (defBody s_is_point_of) (defScope s_is_point_of) .none kV_is_point_of dc_is_point_of pm_is_point_of an_is_point_of cd_is_point_of ct_is_point_of), sl_is_point_of⟩) (c_is_point_of : PySem.W.codeIn K cd_is_point_of "is_point_of" = true) (k_is_point_of : PySem.W.keepIn K (.ref f_is_point_of) = true)
  {od_is_whole_in an_is_whole_in : Option Addr} {sl_is_whole_in : Array (Option Value)} {oc_is_whole_in kV_is_whole_in dc_is_whole_in pm_is_whole_in cd_is_whole_in ct_is_whole_in : Value}
  (a_is_whole_in : PySem.W.nsIn K mainGlobals "is_whole_in" = some (some (.ref f_is_whole_in))) (l_is_whole_in : K.lookup f_is_whole_in = some ⟨oc_is_whole_in, od_is_whole_in, .func (PySem.W.fnOf "is_whole_in" "is_whole_in" (defArgs s_is_whole_in) (defBody s_is_whole_in) (defScope s_is_whole_in) .none kV_is_whole_in dc_is_whole_in pm_is_whole_in an_is_whole_in cd_is_whole_in ct_is_whole_in), sl_is_whole_in⟩) (c_is_whole_in : PySem.W.codeIn K cd_is_whole_in "is_whole_in" = true) (k_is_whole_in : PySem.W.keepIn K (.ref f_is_whole_in) = true)
  {od_require_points an_require_points : Option Addr} {sl_require_points : Array (Option Value)} {oc_require_points kV_require_points dc_require_points pm_require_points cd_require_points ct_require_points : Value}
  (a_require_points : PySem.W.nsIn K mainGlobals "require_points" = some (some (.ref f_require_points))) (l_require_points : K.lookup f_require_points = some ⟨oc_require_points, od_require_points, .func (PySem.W.fnOf "require_points" "require_points" (defArgs s_require_points) (defBody s_require_points) (defScope s_require_points) .none kV_require_points dc_require_points pm_require_points an_require_points cd_require_points ct_require_points), sl_require_points⟩) (c_require_points : PySem.W.codeIn K cd_require_points "require_points" = true) (k_require_points : PySem.W.keepIn K (.ref f_require_points) = true)
  {od_led an_led : Option Addr} {sl_led : Array (Option Value)} {oc_led kV_led dc_led pm_led cd_led ct_led : Value}
  (a_led : PySem.W.nsIn K mainGlobals "led" = some (some (.ref f_led))) (l_led : K.lookup f_led = some ⟨oc_led, od_led, .func (PySem.W.fnOf "led" "led" (defArgs s_led) (defBody s_led) (defScope s_led) .none kV_led dc_led pm_led an_led cd_led ct_led), sl_led⟩) (c_led : PySem.W.codeIn K cd_led "led" = true) (k_led : PySem.W.keepIn K (.ref f_led) = true)
  {od_require_rows an_require_rows : Option Addr} {sl_require_rows : Array (Option Value)} {oc_require_rows kV_require_rows dc_require_rows pm_require_rows cd_require_rows ct_require_rows : Value}
  (a_require_rows : PySem.W.nsIn K mainGlobals "require_rows" = some (some (.ref f_require_rows))) (l_require_rows : K.lookup f_require_rows = some ⟨oc_require_rows, od_require_rows, .func (PySem.W.fnOf "require_rows" "require_rows" (defArgs s_require_rows) (defBody s_require_rows) (defScope s_require_rows) .none kV_require_rows dc_require_rows pm_require_rows an_require_rows cd_require_rows ct_require_rows), sl_require_rows⟩) (c_require_rows : PySem.W.codeIn K cd_require_rows "require_rows" = true) (k_require_rows : PySem.W.keepIn K (.ref f_require_rows) = true)
  {od_do_lead an_do_lead : Option Addr} {sl_do_lead : Array (Option Value)} {oc_do_lead kV_do_lead dc_do_lead pm_do_lead cd_do_lead ct_do_lead : Value}
  (a_do_lead : PySem.W.nsIn K mainGlobals "do_lead" = some (some (.ref f_do_lead))) (l_do_lead : K.lookup f_do_lead = some ⟨oc_do_lead, od_do_lead, .func (PySem.W.fnOf "do_lead" "do_lead" (defArgs s_do_lead) (defBody s_do_lead) (defScope s_do_lead) .none kV_do_lead dc_do_lead pm_do_lead an_do_lead cd_do_lead ct_do_lead), sl_do_lead⟩) (c_do_lead : PySem.W.codeIn K cd_do_lead "do_lead" = true) (k_do_lead : PySem.W.keepIn K (.ref f_do_lead) = true)
  {od_take_in an_take_in : Option Addr} {sl_take_in : Array (Option Value)} {oc_take_in kV_take_in dc_take_in pm_take_in cd_take_in ct_take_in : Value}
  (a_take_in : PySem.W.nsIn K mainGlobals "take_in" = some (some (.ref f_take_in))) (l_take_in : K.lookup f_take_in = some ⟨oc_take_in, od_take_in, .func (PySem.W.fnOf "take_in" "take_in" (defArgs s_take_in) (defBody s_take_in) (defScope s_take_in) .none kV_take_in dc_take_in pm_take_in an_take_in cd_take_in ct_take_in), sl_take_in⟩) (c_take_in : PySem.W.codeIn K cd_take_in "take_in" = true) (k_take_in : PySem.W.keepIn K (.ref f_take_in) = true)
  {od_clear_in an_clear_in : Option Addr} {sl_clear_in : Array (Option Value)} {oc_clear_in kV_clear_in dc_clear_in pm_clear_in cd_clear_in ct_clear_in : Value}
  (a_clear_in : PySem.W.nsIn K mainGlobals "clear_in" = some (some (.ref f_clear_in))) (l_clear_in : K.lookup f_clear_in = some ⟨oc_clear_in, od_clear_in, .func (PySem.W.fnOf "clear_in" "clear_in" (defArgs s_clear_in) (defBody s_clear_in) (defScope s_clear_in) .none kV_clear_in dc_clear_in pm_clear_in an_clear_in cd_clear_in ct_clear_in), sl_clear_in⟩) (c_clear_in : PySem.W.codeIn K cd_clear_in "clear_in" = true) (k_clear_in : PySem.W.keepIn K (.ref f_clear_in) = true)
  {od_form_in an_form_in : Option Addr} {sl_form_in : Array (Option Value)} {oc_form_in kV_form_in dc_form_in pm_form_in cd_form_in ct_form_in : Value}
  (a_form_in : PySem.W.nsIn K mainGlobals "form_in" = some (some (.ref f_form_in))) (l_form_in : K.lookup f_form_in = some ⟨oc_form_in, od_form_in, .func (PySem.W.fnOf "form_in" "form_in" (defArgs s_form_in) (defBody s_form_in) (defScope s_form_in) .none kV_form_in dc_form_in pm_form_in an_form_in cd_form_in ct_form_in), sl_form_in⟩) (c_form_in : PySem.W.codeIn K cd_form_in "form_in" = true) (k_form_in : PySem.W.keepIn K (.ref f_form_in) = true)
  {od_is_form_like an_is_form_like : Option Addr} {sl_is_form_like : Array (Option Value)} {oc_is_form_like kV_is_form_like dc_is_form_like pm_is_form_like cd_is_form_like ct_is_form_like : Value}
  (a_is_form_like : PySem.W.nsIn K mainGlobals "is_form_like" = some (some (.ref f_is_form_like))) (l_is_form_like : K.lookup f_is_form_like = some ⟨oc_is_form_like, od_is_form_like, .func (PySem.W.fnOf "is_form_like" "is_form_like" (defArgs s_is_form_like) (defBody s_is_form_like) (defScope s_is_form_like) .none kV_is_form_like dc_is_form_like pm_is_form_like an_is_form_like cd_is_form_like ct_is_form_like), sl_is_form_like⟩) (c_is_form_like : PySem.W.codeIn K cd_is_form_like "is_form_like" = true) (k_is_form_like : PySem.W.keepIn K (.ref f_is_form_like) = true)
  {od_is_same_paper an_is_same_paper : Option Addr} {sl_is_same_paper : Array (Option Value)} {oc_is_same_paper kV_is_same_paper dc_is_same_paper pm_is_same_paper cd_is_same_paper ct_is_same_paper : Value}
  (a_is_same_paper : PySem.W.nsIn K mainGlobals "is_same_paper" = some (some (.ref f_is_same_paper))) (l_is_same_paper : K.lookup f_is_same_paper = some ⟨oc_is_same_paper, od_is_same_paper, .func (PySem.W.fnOf "is_same_paper" "is_same_paper" (defArgs s_is_same_paper) (defBody s_is_same_paper) (defScope s_is_same_paper) .none kV_is_same_paper dc_is_same_paper pm_is_same_paper an_is_same_paper cd_is_same_paper ct_is_same_paper), sl_is_same_paper⟩) (c_is_same_paper : PySem.W.codeIn K cd_is_same_paper "is_same_paper" = true) (k_is_same_paper : PySem.W.keepIn K (.ref f_is_same_paper) = true)
  {od__law_back an__law_back : Option Addr} {sl__law_back : Array (Option Value)} {oc__law_back kV__law_back dc__law_back pm__law_back cd__law_back ct__law_back : Value}
  (a__law_back : PySem.W.nsIn K mainGlobals "_law_back" = some (some (.ref f__law_back))) (l__law_back : K.lookup f__law_back = some ⟨oc__law_back, od__law_back, .func (PySem.W.fnOf "_law_back" "_law_back" (defArgs s__law_back) (defBody s__law_back) (defScope s__law_back) .none kV__law_back dc__law_back pm__law_back an__law_back cd__law_back ct__law_back), sl__law_back⟩) (c__law_back : PySem.W.codeIn K cd__law_back "_law_back" = true) (k__law_back : PySem.W.keepIn K (.ref f__law_back) = true)
  {od__law_undone an__law_undone : Option Addr} {sl__law_undone : Array (Option Value)} {oc__law_undone kV__law_undone dc__law_undone pm__law_undone cd__law_undone ct__law_undone : Value}
  (a__law_undone : PySem.W.nsIn K mainGlobals "_law_undone" = some (some (.ref f__law_undone))) (l__law_undone : K.lookup f__law_undone = some ⟨oc__law_undone, od__law_undone, .func (PySem.W.fnOf "_law_undone" "_law_undone" (defArgs s__law_undone) (defBody s__law_undone) (defScope s__law_undone) .none kV__law_undone dc__law_undone pm__law_undone an__law_undone cd__law_undone ct__law_undone), sl__law_undone⟩) (c__law_undone : PySem.W.codeIn K cd__law_undone "_law_undone" = true) (k__law_undone : PySem.W.keepIn K (.ref f__law_undone) = true)
  {od_back_rows an_back_rows : Option Addr} {sl_back_rows : Array (Option Value)} {oc_back_rows kV_back_rows dc_back_rows pm_back_rows cd_back_rows ct_back_rows : Value}
  (a_back_rows : PySem.W.nsIn K mainGlobals "back_rows" = some (some (.ref f_back_rows))) (l_back_rows : K.lookup f_back_rows = some ⟨oc_back_rows, od_back_rows, .func (PySem.W.fnOf "back_rows" "back_rows" (defArgs s_back_rows) (defBody s_back_rows) (defScope s_back_rows) .none kV_back_rows dc_back_rows pm_back_rows an_back_rows cd_back_rows ct_back_rows), sl_back_rows⟩) (c_back_rows : PySem.W.codeIn K cd_back_rows "back_rows" = true) (k_back_rows : PySem.W.keepIn K (.ref f_back_rows) = true)
  {od_move_in an_move_in : Option Addr} {sl_move_in : Array (Option Value)} {oc_move_in kV_move_in dc_move_in pm_move_in cd_move_in ct_move_in : Value}
  (a_move_in : PySem.W.nsIn K mainGlobals "move_in" = some (some (.ref f_move_in))) (l_move_in : K.lookup f_move_in = some ⟨oc_move_in, od_move_in, .func (PySem.W.fnOf "move_in" "move_in" (defArgs s_move_in) (defBody s_move_in) (defScope s_move_in) .none kV_move_in dc_move_in pm_move_in an_move_in cd_move_in ct_move_in), sl_move_in⟩) (c_move_in : PySem.W.codeIn K cd_move_in "move_in" = true) (k_move_in : PySem.W.keepIn K (.ref f_move_in) = true)
  {od_same_paper an_same_paper : Option Addr} {sl_same_paper : Array (Option Value)} {oc_same_paper kV_same_paper dc_same_paper pm_same_paper cd_same_paper ct_same_paper : Value}
  (a_same_paper : PySem.W.nsIn K mainGlobals "same_paper" = some (some (.ref f_same_paper))) (l_same_paper : K.lookup f_same_paper = some ⟨oc_same_paper, od_same_paper, .func (PySem.W.fnOf "same_paper" "same_paper" (defArgs s_same_paper) (defBody s_same_paper) (defScope s_same_paper) .none kV_same_paper dc_same_paper pm_same_paper an_same_paper cd_same_paper ct_same_paper), sl_same_paper⟩) (c_same_paper : PySem.W.codeIn K cd_same_paper "same_paper" = true) (k_same_paper : PySem.W.keepIn K (.ref f_same_paper) = true)
  {od__law_word_right an__law_word_right : Option Addr} {sl__law_word_right : Array (Option Value)} {oc__law_word_right kV__law_word_right dc__law_word_right pm__law_word_right cd__law_word_right ct__law_word_right : Value}
  (a__law_word_right : PySem.W.nsIn K mainGlobals "_law_word_right" = some (some (.ref f__law_word_right))) (l__law_word_right : K.lookup f__law_word_right = some ⟨oc__law_word_right, od__law_word_right, .func (PySem.W.fnOf "_law_word_right" "_law_word_right" (defArgs s__law_word_right) (defBody s__law_word_right) (defScope s__law_word_right) .none kV__law_word_right dc__law_word_right pm__law_word_right an__law_word_right cd__law_word_right ct__law_word_right), sl__law_word_right⟩) (c__law_word_right : PySem.W.codeIn K cd__law_word_right "_law_word_right" = true) (k__law_word_right : PySem.W.keepIn K (.ref f__law_word_right) = true)
  {od__law_one_of an__law_one_of : Option Addr} {sl__law_one_of : Array (Option Value)} {oc__law_one_of kV__law_one_of dc__law_one_of pm__law_one_of cd__law_one_of ct__law_one_of : Value}
  (a__law_one_of : PySem.W.nsIn K mainGlobals "_law_one_of" = some (some (.ref f__law_one_of))) (l__law_one_of : K.lookup f__law_one_of = some ⟨oc__law_one_of, od__law_one_of, .func (PySem.W.fnOf "_law_one_of" "_law_one_of" (defArgs s__law_one_of) (defBody s__law_one_of) (defScope s__law_one_of) .none kV__law_one_of dc__law_one_of pm__law_one_of an__law_one_of cd__law_one_of ct__law_one_of), sl__law_one_of⟩) (c__law_one_of : PySem.W.codeIn K cd__law_one_of "_law_one_of" = true) (k__law_one_of : PySem.W.keepIn K (.ref f__law_one_of) = true)
  {od__law_times an__law_times : Option Addr} {sl__law_times : Array (Option Value)} {oc__law_times kV__law_times dc__law_times pm__law_times cd__law_times ct__law_times : Value}
  (a__law_times : PySem.W.nsIn K mainGlobals "_law_times" = some (some (.ref f__law_times))) (l__law_times : K.lookup f__law_times = some ⟨oc__law_times, od__law_times, .func (PySem.W.fnOf "_law_times" "_law_times" (defArgs s__law_times) (defBody s__law_times) (defScope s__law_times) .none kV__law_times dc__law_times pm__law_times an__law_times cd__law_times ct__law_times), sl__law_times⟩) (c__law_times : PySem.W.codeIn K cd__law_times "_law_times" = true) (k__law_times : PySem.W.keepIn K (.ref f__law_times) = true)
  {od__law_again_right an__law_again_right : Option Addr} {sl__law_again_right : Array (Option Value)} {oc__law_again_right kV__law_again_right dc__law_again_right pm__law_again_right cd__law_again_right ct__law_again_right : Value}
  (a__law_again_right : PySem.W.nsIn K mainGlobals "_law_again_right" = some (some (.ref f__law_again_right))) (l__law_again_right : K.lookup f__law_again_right = some ⟨oc__law_again_right, od__law_again_right, .func (PySem.W.fnOf "_law_again_right" "_law_again_right" (defArgs s__law_again_right) (defBody s__law_again_right) (defScope s__law_again_right) .none kV__law_again_right dc__law_again_right pm__law_again_right an__law_again_right cd__law_again_right ct__law_again_right), sl__law_again_right⟩) (c__law_again_right : PySem.W.codeIn K cd__law_again_right "_law_again_right" = true) (k__law_again_right : PySem.W.keepIn K (.ref f__law_again_right) = true)
  {od__law_common an__law_common : Option Addr} {sl__law_common : Array (Option Value)} {oc__law_common kV__law_common dc__law_common pm__law_common cd__law_common ct__law_common : Value}
  (a__law_common : PySem.W.nsIn K mainGlobals "_law_common" = some (some (.ref f__law_common))) (l__law_common : K.lookup f__law_common = some ⟨oc__law_common, od__law_common, .func (PySem.W.fnOf "_law_common" "_law_common" (defArgs s__law_common) (defBody s__law_common) (defScope s__law_common) .none kV__law_common dc__law_common pm__law_common an__law_common cd__law_common ct__law_common), sl__law_common⟩) (c__law_common : PySem.W.codeIn K cd__law_common "_law_common" = true) (k__law_common : PySem.W.keepIn K (.ref f__law_common) = true)
  {od_whole_form an_whole_form : Option Addr} {sl_whole_form : Array (Option Value)} {oc_whole_form kV_whole_form dc_whole_form pm_whole_form cd_whole_form ct_whole_form : Value}
  (a_whole_form : PySem.W.nsIn K mainGlobals "whole_form" = some (some (.ref f_whole_form))) (l_whole_form : K.lookup f_whole_form = some ⟨oc_whole_form, od_whole_form, .func (PySem.W.fnOf "whole_form" "whole_form" (defArgs s_whole_form) (defBody s_whole_form) (defScope s_whole_form) .none kV_whole_form dc_whole_form pm_whole_form an_whole_form cd_whole_form ct_whole_form), sl_whole_form⟩) (c_whole_form : PySem.W.codeIn K cd_whole_form "whole_form" = true) (k_whole_form : PySem.W.keepIn K (.ref f_whole_form) = true)
  {od__law_pairs_right an__law_pairs_right : Option Addr} {sl__law_pairs_right : Array (Option Value)} {oc__law_pairs_right kV__law_pairs_right dc__law_pairs_right pm__law_pairs_right cd__law_pairs_right ct__law_pairs_right : Value}
  (a__law_pairs_right : PySem.W.nsIn K mainGlobals "_law_pairs_right" = some (some (.ref f__law_pairs_right))) (l__law_pairs_right : K.lookup f__law_pairs_right = some ⟨oc__law_pairs_right, od__law_pairs_right, .func (PySem.W.fnOf "_law_pairs_right" "_law_pairs_right" (defArgs s__law_pairs_right) (defBody s__law_pairs_right) (defScope s__law_pairs_right) .none kV__law_pairs_right dc__law_pairs_right pm__law_pairs_right an__law_pairs_right cd__law_pairs_right ct__law_pairs_right), sl__law_pairs_right⟩) (c__law_pairs_right : PySem.W.codeIn K cd__law_pairs_right "_law_pairs_right" = true) (k__law_pairs_right : PySem.W.keepIn K (.ref f__law_pairs_right) = true)
  {od_law an_law : Option Addr} {sl_law : Array (Option Value)} {oc_law kV_law dc_law pm_law cd_law ct_law : Value}
  (a_law : PySem.W.nsIn K mainGlobals "law" = some (some (.ref f_law))) (l_law : K.lookup f_law = some ⟨oc_law, od_law, .func (PySem.W.fnOf "law" "law" (defArgs s_law) (defBody s_law) (defScope s_law) .none kV_law dc_law pm_law an_law cd_law ct_law), sl_law⟩) (c_law : PySem.W.codeIn K cd_law "law" = true) (k_law : PySem.W.keepIn K (.ref f_law) = true)
  (z_abs : PySem.W.nsIn K mainGlobals "abs" = some none)
  (z_all : PySem.W.nsIn K mainGlobals "all" = some none)
  (z_any : PySem.W.nsIn K mainGlobals "any" = some none)
  (z_bool : PySem.W.nsIn K mainGlobals "bool" = some none)
  {tk_c_GREAT : Tok} (z_c_GREAT : PySem.W.nsIn K mainGlobals "GREAT" = some (some (.int (999999999999999999999999999999999999999999999999999999999999) tk_c_GREAT)))
  {tk_c_MOST_POINTS : Tok} (z_c_MOST_POINTS : PySem.W.nsIn K mainGlobals "MOST_POINTS" = some (some (.int (40) tk_c_MOST_POINTS)))
  {tk_c_MOVE : Tok} (z_c_MOVE : PySem.W.nsIn K mainGlobals "MOVE" = some (some (.str (Str.ofString "move") tk_c_MOVE)))
  {tk_c_UNLIKE : Tok} (z_c_UNLIKE : PySem.W.nsIn K mainGlobals "UNLIKE" = some (some (.str (Str.ofString "unlike") tk_c_UNLIKE)))
  (z_int : PySem.W.nsIn K mainGlobals "int" = some none)
  (z_isinstance : PySem.W.nsIn K mainGlobals "isinstance" = some none)
  (z_len : PySem.W.nsIn K mainGlobals "len" = some none)
  (z_list : PySem.W.nsIn K mainGlobals "list" = some none)
  (z_max : PySem.W.nsIn K mainGlobals "max" = some none)
  (z_min : PySem.W.nsIn K mainGlobals "min" = some none)
  (z_range : PySem.W.nsIn K mainGlobals "range" = some none)
  (z_str : PySem.W.nsIn K mainGlobals "str" = some none)
  (z_tuple : PySem.W.nsIn K mainGlobals "tuple" = some none)
  (z_zip : PySem.W.nsIn K mainGlobals "zip" = some none) :
  ∃ fd : FuncData, (∀ (s : Shared) (v : Value), BindsTo s fd ⟨[v], []⟩ [("script", v)]) ∧ ∀ base : Heap, K.In base → base.Ns mainGlobals mg → FnOk l.prog w K mg base CX0 9 fa fd ["script"] (spR K R_law) := by
  have e := hfa.symm.trans (PySem.W.mg_of X G a_law)
  cases e
  have T : Txt K mg := ⟨PySem.W.mg_none_of X G z_abs, PySem.W.mg_none_of X G z_all, PySem.W.mg_none_of X G z_any, PySem.W.mg_none_of X G z_bool, ⟨_, PySem.W.mg_of X G z_c_GREAT⟩, ⟨_, PySem.W.mg_of X G z_c_MOST_POINTS⟩, ⟨_, PySem.W.mg_of X G z_c_MOVE⟩, ⟨_, PySem.W.mg_of X G z_c_UNLIKE⟩, PySem.W.mg_none_of X G z_int, PySem.W.mg_none_of X G z_isinstance, PySem.W.mg_none_of X G z_len, PySem.W.mg_none_of X G z_list, PySem.W.mg_none_of X G z_max, PySem.W.mg_none_of X G z_min, PySem.W.mg_none_of X G z_range, PySem.W.mg_none_of X G z_str, PySem.W.mg_none_of X G z_tuple, PySem.W.mg_none_of X G z_zip⟩
  refine ⟨PySem.W.fnOf "law" "law" (defArgs s_law) (defBody s_law) (defScope s_law) .none kV_law dc_law pm_law an_law cd_law ct_law, fun s v => .of_eq rfl, fun base _ _ => ?_⟩
  have k_law_dice : Kn l.prog w K mg base 1 "_law_dice" R__law_dice := kn__law_dice T (fun_mk (st := s__law_dice) l__law_dice c__law_dice k__law_dice) (PySem.W.mg_of X G a__law_dice) 
  have k_law_roll : Kn l.prog w K mg base 1 "_law_roll" R__law_roll := kn__law_roll T (fun_mk (st := s__law_roll) l__law_roll c__law_roll k__law_roll) (PySem.W.mg_of X G a__law_roll) 
  have k_law_step : Kn l.prog w K mg base 1 "_law_step" R__law_step := kn__law_step T (fun_mk (st := s__law_step) l__law_step c__law_step k__law_step) (PySem.W.mg_of X G a__law_step) 
  have k_law_drawn : Kn l.prog w K mg base 2 "_law_drawn" R__law_drawn := kn__law_drawn T (fun_mk (st := s__law_drawn) l__law_drawn c__law_drawn k__law_drawn) (PySem.W.mg_of X G a__law_drawn) k_law_roll k_law_step
  have k_law_still : Kn l.prog w K mg base 1 "_law_still" R__law_still := kn__law_still T (fun_mk (st := s__law_still) l__law_still c__law_still k__law_still) (PySem.W.mg_of X G a__law_still) 
  have kis_within : Kn l.prog w K mg base 1 "is_within" R_is_within := kn_is_within T (fun_mk (st := s_is_within) l_is_within c_is_within k_is_within) (PySem.W.mg_of X G a_is_within) 
  have kis_integer : Kn l.prog w K mg base 2 "is_integer" R_is_integer := kn_is_integer T (fun_mk (st := s_is_integer) l_is_integer c_is_integer k_is_integer) (PySem.W.mg_of X G a_is_integer) kis_within
  have kare_two : Kn l.prog w K mg base 3 "are_two" R_are_two := kn_are_two T (fun_mk (st := s_are_two) l_are_two c_are_two k_are_two) (PySem.W.mg_of X G a_are_two) kis_integer
  have kis_whole_move_of : Kn l.prog w K mg base 4 "is_whole_move_of" R_is_whole_move_of := kn_is_whole_move_of T (fun_mk (st := s_is_whole_move_of) l_is_whole_move_of c_is_whole_move_of k_is_whole_move_of) (PySem.W.mg_of X G a_is_whole_move_of) kare_two
  have krequire_whole_move : Kn l.prog w K mg base 5 "require_whole_move" R_require_whole_move := kn_require_whole_move T (fun_mk (st := s_require_whole_move) l_require_whole_move c_require_whole_move k_require_whole_move) (PySem.W.mg_of X G a_require_whole_move) kis_whole_move_of
  have kled_in : Kn l.prog w K mg base 1 "led_in" R_led_in := kn_led_in T (fun_mk (st := s_led_in) l_led_in c_led_in k_led_in) (PySem.W.mg_of X G a_led_in) 
  have kled_rows : Kn l.prog w K mg base 1 "led_rows" R_led_rows := kn_led_rows T (fun_mk (st := s_led_rows) l_led_rows c_led_rows k_led_rows) (PySem.W.mg_of X G a_led_rows) 
  have kled_behind : Kn l.prog w K mg base 6 "led_behind" R_led_behind := kn_led_behind T (fun_mk (st := s_led_behind) l_led_behind c_led_behind k_led_behind) (PySem.W.mg_of X G a_led_behind) krequire_whole_move kled_in kled_rows
  have k_law_made : Kn l.prog w K mg base 7 "_law_made" R__law_made := kn__law_made T (fun_mk (st := s__law_made) l__law_made c__law_made k__law_made) (PySem.W.mg_of X G a__law_made) k_law_still kled_behind
  have kis_whole_move : Kn l.prog w K mg base 5 "is_whole_move" R_is_whole_move := kn_is_whole_move T (fun_mk (st := s_is_whole_move) l_is_whole_move c_is_whole_move k_is_whole_move) (PySem.W.mg_of X G a_is_whole_move) kis_whole_move_of
  have kcommon : Kn l.prog w K mg base 1 "common" R_common := kn_common T (fun_mk (st := s_common) l_common c_common k_common) (PySem.W.mg_of X G a_common) 
  have kis_point_of : Kn l.prog w K mg base 2 "is_point_of" R_is_point_of := kn_is_point_of T (fun_mk (st := s_is_point_of) l_is_point_of c_is_point_of k_is_point_of) (PySem.W.mg_of X G a_is_point_of) kis_within kcommon
  have kis_whole_in : Kn l.prog w K mg base 1 "is_whole_in" R_is_whole_in := kn_is_whole_in T (fun_mk (st := s_is_whole_in) l_is_whole_in c_is_whole_in k_is_whole_in) (PySem.W.mg_of X G a_is_whole_in) 
  have krequire_points : Kn l.prog w K mg base 3 "require_points" R_require_points := kn_require_points T (fun_mk (st := s_require_points) l_require_points c_require_points k_require_points) (PySem.W.mg_of X G a_require_points) kis_point_of kis_whole_in
  have kled : Kn l.prog w K mg base 6 "led" R_led := kn_led T (fun_mk (st := s_led) l_led c_led k_led) (PySem.W.mg_of X G a_led) krequire_whole_move krequire_points kled_in
  have krequire_rows : Kn l.prog w K mg base 4 "require_rows" R_require_rows := kn_require_rows T (fun_mk (st := s_require_rows) l_require_rows c_require_rows k_require_rows) (PySem.W.mg_of X G a_require_rows) krequire_points
  have kdo_lead : Kn l.prog w K mg base 2 "do_lead" R_do_lead := kn_do_lead T (fun_mk (st := s_do_lead) l_do_lead c_do_lead k_do_lead) (PySem.W.mg_of X G a_do_lead) kled_in
  have ktake_in : Kn l.prog w K mg base 1 "take_in" R_take_in := kn_take_in T (fun_mk (st := s_take_in) l_take_in c_take_in k_take_in) (PySem.W.mg_of X G a_take_in) 
  have kclear_in : Kn l.prog w K mg base 2 "clear_in" R_clear_in := kn_clear_in T (fun_mk (st := s_clear_in) l_clear_in c_clear_in k_clear_in) (PySem.W.mg_of X G a_clear_in) ktake_in
  have kform_in : Kn l.prog w K mg base 3 "form_in" R_form_in := kn_form_in T (fun_mk (st := s_form_in) l_form_in c_form_in k_form_in) (PySem.W.mg_of X G a_form_in) kclear_in ktake_in
  have kis_form_like : Kn l.prog w K mg base 1 "is_form_like" R_is_form_like := kn_is_form_like T (fun_mk (st := s_is_form_like) l_is_form_like c_is_form_like k_is_form_like) (PySem.W.mg_of X G a_is_form_like) 
  have kis_same_paper : Kn l.prog w K mg base 5 "is_same_paper" R_is_same_paper := kn_is_same_paper T (fun_mk (st := s_is_same_paper) l_is_same_paper c_is_same_paper k_is_same_paper) (PySem.W.mg_of X G a_is_same_paper) krequire_rows kis_whole_move_of kdo_lead kform_in kis_form_like
  have k_law_back : Kn l.prog w K mg base 1 "_law_back" R__law_back := kn__law_back T (fun_mk (st := s__law_back) l__law_back c__law_back k__law_back) (PySem.W.mg_of X G a__law_back) 
  have k_law_undone : Kn l.prog w K mg base 2 "_law_undone" R__law_undone := kn__law_undone T (fun_mk (st := s__law_undone) l__law_undone c__law_undone k__law_undone) (PySem.W.mg_of X G a__law_undone) k_law_step
  have kback_rows : Kn l.prog w K mg base 1 "back_rows" R_back_rows := kn_back_rows T (fun_mk (st := s_back_rows) l_back_rows c_back_rows k_back_rows) (PySem.W.mg_of X G a_back_rows) 
  have kmove_in : Kn l.prog w K mg base 4 "move_in" R_move_in := kn_move_in T (fun_mk (st := s_move_in) l_move_in c_move_in k_move_in) (PySem.W.mg_of X G a_move_in) kform_in kled_rows kback_rows kled_in
  have ksame_paper : Kn l.prog w K mg base 5 "same_paper" R_same_paper := kn_same_paper T (fun_mk (st := s_same_paper) l_same_paper c_same_paper k_same_paper) (PySem.W.mg_of X G a_same_paper) krequire_rows kform_in kmove_in
  have k_law_word_right : Kn l.prog w K mg base 8 "_law_word_right" R__law_word_right := kn__law_word_right T (fun_mk (st := s__law_word_right) l__law_word_right c__law_word_right k__law_word_right) (PySem.W.mg_of X G a__law_word_right) k_law_drawn k_law_roll k_law_made kis_whole_move kled_behind kled kis_same_paper k_law_back k_law_still k_law_undone ksame_paper
  have k_law_one_of : Kn l.prog w K mg base 2 "_law_one_of" R__law_one_of := kn__law_one_of T (fun_mk (st := s__law_one_of) l__law_one_of c__law_one_of k__law_one_of) (PySem.W.mg_of X G a__law_one_of) k_law_roll
  have k_law_times : Kn l.prog w K mg base 1 "_law_times" R__law_times := kn__law_times T (fun_mk (st := s__law_times) l__law_times c__law_times k__law_times) (PySem.W.mg_of X G a__law_times) 
  have k_law_again_right : Kn l.prog w K mg base 8 "_law_again_right" R__law_again_right := kn__law_again_right T (fun_mk (st := s__law_again_right) l__law_again_right c__law_again_right k__law_again_right) (PySem.W.mg_of X G a__law_again_right) k_law_one_of k_law_roll k_law_step k_law_made k_law_back k_law_still kled_behind kled k_law_times
  have k_law_common : Kn l.prog w K mg base 1 "_law_common" R__law_common := kn__law_common T (fun_mk (st := s__law_common) l__law_common c__law_common k__law_common) (PySem.W.mg_of X G a__law_common) 
  have kwhole_form : Kn l.prog w K mg base 4 "whole_form" R_whole_form := kn_whole_form T (fun_mk (st := s_whole_form) l_whole_form c_whole_form k_whole_form) (PySem.W.mg_of X G a_whole_form) krequire_points kform_in
  have k_law_pairs_right : Kn l.prog w K mg base 7 "_law_pairs_right" R__law_pairs_right := kn__law_pairs_right T (fun_mk (st := s__law_pairs_right) l__law_pairs_right c__law_pairs_right k__law_pairs_right) (PySem.W.mg_of X G a__law_pairs_right) k_law_roll k_law_one_of k_law_common ksame_paper kwhole_form kis_same_paper kled
  exact fn_law T (fun_mk (st := s_law) l_law c_law k_law) k_law_dice k_law_word_right k_law_again_right k_law_pairs_right kis_whole_move
end Abs
/-! What the mirrors' parts come to: numbers, items, == -/
namespace Abs
open PySem
abbrev BB : Int := 10 ^ 200
theorem log2_lt' (n k : Nat) (h : n < 2 ^ k) (hk : 0 < k) : n.log2 < k := by
  by_cases z : n = 0
  · subst z; simpa using hk
  · exact (Nat.log2_lt z).mpr h
theorem bb_log {i : Int} (h1 : -BB ≤ i) (h2 : i ≤ BB) : i.natAbs.log2 < 700 := by
  refine log2_lt' _ _ (Nat.lt_of_le_of_lt (show i.natAbs ≤ 10 ^ 200 by unfold BB at *; omega) (by decide +kernel)) (by decide)
theorem mulO_ok {i j : Int} (h1 : -BB ≤ i) (h2 : i ≤ BB) (h3 : -BB ≤ j) (h4 : j ≤ BB) : mulO i j = some (i * j) := by
  unfold mulO
  have := bb_log h1 h2
  have := bb_log h3 h4
  rw [if_pos (by omega)]
theorem divO_ok {i j : Int} (h1 : 0 < j) (h2 : j ≤ BB) : divO i j = some (i / j) := by
  unfold divO
  have := bb_log (i := j) (by unfold BB; omega) h2
  rw [if_pos ⟨h1, by omega⟩]
theorem modO_ok {i j : Int} (h1 : 0 < j) : modO i j = some (i % j) := by
  unfold modO
  rw [if_pos h1]
theorem fdivO_ok {i j : Int} (h0 : j ≠ 0) (h1 : -BB ≤ j) (h2 : j ≤ BB) : fdivO i j = some (i.fdiv j) := by
  unfold fdivO
  have := bb_log h1 h2
  rw [if_pos ⟨h0, by omega⟩]
theorem fdivO_pos {i j : Int} (h0 : 0 < j) (h2 : j ≤ BB) : fdivO i j = some (i / j) := by
  rw [fdivO_ok (by omega) (by unfold BB; omega) h2, Int.fdiv_eq_ediv_of_nonneg i (by omega)]
theorem iteT {α : Type} {t : Bool} {a b : Option α} (h : t = true) : (if t = true then a else b) = a := if_pos h
theorem iteF {α : Type} {t : Bool} {a b : Option α} (h : t = false) : (if t = true then a else b) = b := if_neg (by rw [h]; decide)
theorem szO_ok {α : Type} {l : List α} (h : l.length ≤ 16777216) : szO l = some l := by
  unfold szO
  rw [if_pos (show l.length ≤ sizeLine from h)]
theorem appO_ok {α : Type} {l : List α} {y : α} (h : l.length < 16777216) : appO l y = some (l ++ [y]) := by
  unfold appO
  rw [if_pos (show l.length < sizeLine from h)]
theorem catO_ok2 {α : Type} {l k : List α} (h : l.length + k.length ≤ 16777216) : catO l k = some (l ++ k) := by
  unfold catO
  rw [if_pos (show l.length + k.length ≤ sizeLine from h)]
theorem rgO_ok (n : Nat) (h : n < 2 ^ 62) : rgO (n : Int) = some ((List.range n).map fun i => (0 : Int) + (i : Nat)) := by
  unfold rgO
  rw [if_pos (by omega)]
  rfl
theorem mapO_ok {α β : Type} {m : α → Option β} {f : α → β} : ∀ {l : List α}, (∀ x ∈ l, m x = some (f x)) → mapO m l = some (l.map f)
  | [], _ => rfl
  | x :: t, h => by
    unfold mapO
    rw [h x List.mem_cons_self, Option.bind_some, mapO_ok (fun y hy => h y (List.mem_cons_of_mem _ hy))]
    rfl
theorem ixO_nat {α : Type} (l : List α) (i : Int) (h0 : 0 ≤ i) (h : i < l.length) : ∃ x, ixO l i = some x ∧ x ∈ l := by
  have hl : i.toNat < l.length := by omega
  refine ⟨l[i.toNat], ?_, List.getElem_mem hl⟩
  unfold ixO
  have := L2.atI_nat (xs := l) (j := i.toNat) (v := l[i.toNat]) (List.getElem?_eq_getElem hl)
  rw [show ((i.toNat : Nat) : Int) = i by omega] at this
  exact this
theorem ixO_at {α : Type} {l : List α} {j : Nat} {v : α} (h : l[j]? = some v) : ixO l (j : Int) = some v := L2.atI_nat h
theorem ixO_0 {α : Type} {x : α} {l : List α} : ixO (x :: l) 0 = some x := L2.atI_nat (xs := x :: l) (j := 0) rfl
theorem ixO_1 {α : Type} {x y : α} {l : List α} : ixO (x :: y :: l) 1 = some y := L2.atI_nat (xs := x :: y :: l) (j := 1) rfl
theorem ixO_2 {α : Type} {x y z : α} {l : List α} : ixO (x :: y :: z :: l) 2 = some z := L2.atI_nat (xs := x :: y :: z :: l) (j := 2) rfl
/-! ### loops -/
theorem forS_ok {α τ : Type} {body : α → τ → Option τ} {f : τ → α → τ} (P : τ → Prop) : ∀ (l : List α), (∀ x ∈ l, ∀ s, P s → body x s = some (f s x) ∧ P (f s x)) → ∀ s, P s → forS body l s = some (l.foldl f s) ∧ P (l.foldl f s)
  | [], _, s, hs => ⟨rfl, hs⟩
  | x :: l, h, s, hs => by
    obtain ⟨e, h1⟩ := h x List.mem_cons_self s hs
    obtain ⟨e2, h2⟩ := forS_ok P l (fun y hy => h y (List.mem_cons_of_mem _ hy)) (f s x) h1
    refine ⟨?_, h2⟩
    unfold forS
    rw [e, Option.bind_some, e2]
    rfl
theorem mapS_ok {α β τ : Type} {m : α → τ → Option (β × τ)} (P : τ → Prop) (Q : β → Prop) : ∀ (l : List α), (∀ x ∈ l, ∀ s, P s → ∃ o, m x s = some o ∧ Q o.1 ∧ P o.2) → ∀ s, P s → ∃ q, mapS m l s = some q ∧ q.1.length = l.length ∧ (∀ y ∈ q.1, Q y) ∧ P q.2
  | [], _, s, hs => ⟨([], s), rfl, rfl, fun y hy => by simp at hy, hs⟩
  | x :: l, h, s, hs => by
    obtain ⟨o, e, q1, p1⟩ := h x List.mem_cons_self s hs
    obtain ⟨r, e2, l2, q2, p2⟩ := mapS_ok P Q l (fun y hy => h y (List.mem_cons_of_mem _ hy)) o.2 p1
    refine ⟨(o.1 :: r.1, r.2), ?_, by simp [l2], fun y hy => ?_, p2⟩
    · unfold mapS
      rw [e, Option.bind_some, e2]
      rfl
    · rcases List.mem_cons.mp hy with rfl | hy
      · exact q1
      · exact q2 y hy
theorem forL_go {α τ β : Type} {body : α → τ → Option (Lo τ β)} (P : τ → Prop) : ∀ (xs : List α), (∀ x ∈ xs, ∀ s, P s → ∃ s', body x s = some (.go s') ∧ P s') → ∀ s, P s → ∃ s', forL body xs s = some (.brk s') ∧ P s'
  | [], _, s, hs => ⟨s, rfl, hs⟩
  | x :: xs, h, s, hs => by
    obtain ⟨s1, e, h1⟩ := h x List.mem_cons_self s hs
    unfold forL
    rw [e, Option.bind_some]
    exact forL_go P xs (fun y hy => h y (List.mem_cons_of_mem _ hy)) s1 h1
/-! ### greatest common divisors -/
def gc (a b : Int) : Int := ((Nat.gcd a.natAbs b.natAbs : Nat) : Int)
theorem half (b r : Nat) (h0 : 0 < r) (h : r ≤ b) : 2 * (b % r) ≤ b := by
  have e := Nat.div_add_mod b r
  have h1 := Nat.mod_lt b h0
  have h2 : 1 ≤ b / r := (Nat.one_le_div_iff h0).mpr h
  have h3 : r * 1 ≤ r * (b / r) := Nat.mul_le_mul_left r h2
  omega
theorem half_mul (b r n : Nat) (h0 : 0 < r) (h : r ≤ b) (hn : r * b < 2 ^ (n + 1)) : b % r * r < 2 ^ n := by
  have h1 := half b r h0 h
  have h2 : 2 * (b % r) * r ≤ b * r := Nat.mul_le_mul_right r h1
  have h3 : b * r = r * b := Nat.mul_comm _ _
  have h4 : 2 * (b % r) * r = 2 * (b % r * r) := Nat.mul_assoc _ _ _
  have h5 : 2 ^ (n + 1) = 2 * 2 ^ n := by rw [Nat.pow_succ, Nat.mul_comm]
  omega
def gBody : Int × Int → Option (Int × Int) := fun s1 => (modO s1.1 s1.2).bind fun t5 => some (s1.2, t5)
theorem euc (c : Int × Int → Option Bool) (hc : ∀ x y : Int, 0 ≤ y → c (x, y) = some (decide (0 < y))) : ∀ (n a b : Nat), a % b * b < 2 ^ n → ∀ f, n + 2 ≤ f → whileS c gBody f ((a : Int), (b : Int)) = some (((Nat.gcd a b : Nat) : Int), 0)
  | n, a, 0, _, f + 1, _ => by
    unfold whileS
    rw [hc _ _ (by omega)]
    simp
  | n, a, b + 1, h, f + 1, hf => by
    unfold whileS
    rw [hc _ _ (by omega), Option.bind_some, if_pos (by simp)]
    unfold gBody
    rw [modO_ok (show (0 : Int) < ((a : Int), ((b + 1 : Nat) : Int)).2 by show (0 : Int) < ((b + 1 : Nat) : Int); omega), Option.bind_some, Option.bind_some]
    show whileS c gBody f (((b + 1 : Nat) : Int), (a : Int) % ((b + 1 : Nat) : Int)) = _
    rw [show (a : Int) % ((b + 1 : Nat) : Int) = ((a % (b + 1) : Nat) : Int) by simp]
    have hg : Nat.gcd a (b + 1) = Nat.gcd (b + 1) (a % (b + 1)) := by rw [Nat.gcd_comm, Nat.gcd_rec, Nat.gcd_comm]
    rw [hg]
    by_cases z : a % (b + 1) = 0
    · rw [z]
      obtain ⟨f', rfl⟩ : ∃ f', f = f' + 1 := ⟨f - 1, by omega⟩
      unfold whileS
      rw [hc _ _ (by omega)]
      simp
    · cases n with
      | zero =>
        exfalso
        have : 0 < a % (b + 1) * (b + 1) := Nat.mul_pos (by omega) (by omega)
        omega
      | succ n =>
        have hlt := Nat.mod_lt a (show 0 < b + 1 by omega)
        exact euc c hc n (b + 1) (a % (b + 1)) (half_mul (b + 1) (a % (b + 1)) n (by omega) (by omega) h) f (by omega)
theorem mod_mul_lt (a b : Nat) (k : Nat) (hb : b < 2 ^ k) : a % b * b < 2 ^ (2 * k) := by
  by_cases z : b = 0
  · subst z; rw [Nat.mul_zero]; exact Nat.pow_pos (by decide)
  · have h1 := Nat.mod_lt a (show 0 < b by omega)
    have h2 : a % b * b ≤ b * b := Nat.mul_le_mul_right b (by omega)
    have h3 : b * b < 2 ^ k * 2 ^ k := Nat.mul_lt_mul'' hb hb
    rw [show 2 * k = k + k by omega, Nat.pow_add]
    omega
theorem euc_pos (a b : Int) (h : b.natAbs < 2 ^ 490) : whileS (fun s1 : Int × Int => some (decide (0 < s1.2))) gBody FUEL ((a.natAbs : Int), (b.natAbs : Int)) = some (gc a b, 0) :=
  euc _ (fun x y _ => rfl) (2 * 490) a.natAbs b.natAbs (mod_mul_lt _ _ 490 h) FUEL (by decide)
theorem euc_ne (a b : Int) (h : b.natAbs < 2 ^ 490) : whileS (fun s1 : Int × Int => some (decide (s1.2 ≠ 0))) gBody FUEL ((a.natAbs : Int), (b.natAbs : Int)) = some (gc a b, 0) :=
  euc _ (fun x y hy => by congr 1; simp only [decide_eq_decide]; omega) (2 * 490) a.natAbs b.natAbs (mod_mul_lt _ _ 490 h) FUEL (by decide)
/-! ### == -/
theorem eqO_refl {d : D} (h : SeqAt.shaped d = true) : eqO d d = some true := by
  unfold eqO
  rw [if_pos ⟨h, h⟩]
  unfold SeqAt.shaped at h
  rw [Bool.and_eq_true] at h
  rw [SeqAt.eqv_refl d h.1]
theorem eqO_of {d e : D} (h : SeqAt.shaped d = true) (q : d = e) : eqO d e = some true := by
  subst q; exact eqO_refl h
mutual
def pl : D → Bool
  | .none => true
  | .bool _ => false
  | .int _ => true
  | .str x => PyData.canLay0 (.str x)
  | .list xs => plAll xs
  | .tuple xs => plAll xs
  | .dict _ => false
def plAll : List D → Bool
  | [] => true
  | x :: xs => pl x && plAll xs
end
mutual
theorem pl_can : ∀ d : D, pl d = true → PyData.canLay0 d = true
  | .none, _ => rfl
  | .bool _, _ => rfl
  | .int _, _ => rfl
  | .str x, h => by unfold pl at h; exact h
  | .list xs, h => by unfold pl at h; unfold PyData.canLay0; exact plAll_can xs h
  | .tuple xs, h => by unfold pl at h; unfold PyData.canLay0; exact plAll_can xs h
  | .dict _, h => by unfold pl at h; cases h
theorem plAll_can : ∀ xs : List D, plAll xs = true → PyData.canLayAll0 xs = true
  | [], _ => rfl
  | x :: xs, h => by
    unfold plAll at h
    rw [Bool.and_eq_true] at h
    unfold PyData.canLayAll0
    rw [pl_can x h.1, plAll_can xs h.2]; rfl
end
mutual
theorem pl_eqv : ∀ (d e : D), pl d = true → pl e = true → PyData.eqv d e = true → d = e
  | .none, e, _, _, h => by cases e <;> simp [PyData.eqv] at h ⊢
  | .bool _, e, hd, _, _ => by unfold pl at hd; cases hd
  | .int i, e, _, he, h => by
    cases e with
    | bool b => unfold pl at he; cases he
    | int j => simp [PyData.eqv] at h; rw [h]
    | _ => simp [PyData.eqv] at h
  | .str x, e, _, _, h => by
    cases e with
    | str y => simp [PyData.eqv] at h; rw [h]
    | _ => simp [PyData.eqv] at h
  | .list xs, e, hd, he, h => by
    cases e with
    | list ys =>
      unfold pl at hd he
      unfold PyData.eqv at h
      rw [plAll_eqv xs ys hd he h]
    | _ => simp [PyData.eqv] at h
  | .tuple xs, e, hd, he, h => by
    cases e with
    | tuple ys =>
      unfold pl at hd he
      unfold PyData.eqv at h
      rw [plAll_eqv xs ys hd he h]
    | _ => simp [PyData.eqv] at h
  | .dict _, _, h, _, _ => by unfold pl at h; cases h
theorem plAll_eqv : ∀ (xs ys : List D), plAll xs = true → plAll ys = true → PyData.eqvAll xs ys = true → xs = ys
  | [], [], _, _, _ => rfl
  | [], y :: ys, _, _, h => by simp [PyData.eqvAll] at h
  | x :: xs, [], _, _, h => by simp [PyData.eqvAll] at h
  | x :: xs, y :: ys, hx, hy, h => by
    unfold plAll at hx hy
    unfold PyData.eqvAll at h
    rw [Bool.and_eq_true] at hx hy h
    rw [pl_eqv x y hx.1 hy.1 h.1, plAll_eqv xs ys hx.2 hy.2 h.2]
end
/-- data that may be compared -/
structure Pl (d : D) : Prop where
  pl : pl d = true
  depth : PyData.depth d ≤ 64
theorem Pl.sh {d : D} (h : Pl d) : SeqAt.shaped d = true := by
  unfold SeqAt.shaped
  rw [pl_can d h.pl]
  simp [h.depth]
theorem eqO_pl {d e : D} (hd : Pl d) (he : Pl e) [Decidable (d = e)] : eqO d e = some (decide (d = e)) := by
  unfold eqO
  rw [if_pos ⟨hd.sh, he.sh⟩]
  congr 1
  by_cases z : d = e
  · subst z
    rw [SeqAt.eqv_refl d (pl_can d hd.pl)]; simp
  · rw [decide_eq_false z]
    cases q : PyData.eqv d e with
    | false => rfl
    | true => exact absurd (pl_eqv d e hd.pl he.pl q) z
/-- == of values that are told by what they stand for -/
theorem eqO_in {α : Type} [DecidableEq α] {f : α → D} (hf : ∀ x, Pl (f x)) (hi : ∀ x y, f x = f y → x = y) (x y : α) : eqO (f x) (f y) = some (decide (x = y)) := by
  haveI : Decidable (f x = f y) := if h : x = y then .isTrue (h ▸ rfl) else .isFalse fun z => h (hi x y z)
  rw [eqO_pl (hf x) (hf y)]
  congr 1
  rw [decide_eq_decide]
  exact ⟨hi x y, fun h => h ▸ rfl⟩
theorem plAll_map {α : Type} {f : α → D} (hf : ∀ x, pl (f x) = true) : ∀ l : List α, plAll (l.map f) = true
  | [] => rfl
  | x :: l => by
    rw [List.map_cons]
    unfold plAll
    rw [hf x, plAll_map hf l]; rfl
theorem depthAll_map {α : Type} {f : α → D} {n : Nat} (hf : ∀ x, PyData.depth (f x) ≤ n) : ∀ l : List α, PyData.depthAll (l.map f) ≤ n
  | [] => by simp [PyData.depthAll]
  | x :: l => by
    rw [List.map_cons]
    unfold PyData.depthAll
    have := hf x
    have := depthAll_map hf l
    omega
theorem map_inj {α β : Type} {f : α → β} (hf : ∀ x y, f x = f y → x = y) : ∀ l k : List α, l.map f = k.map f → l = k
  | [], [], _ => rfl
  | [], y :: k, h => by simp at h
  | x :: l, [], h => by simp at h
  | x :: l, y :: k, h => by
    rw [List.map_cons, List.map_cons, List.cons.injEq] at h
    rw [hf x y h.1, map_inj hf l k h.2]
end Abs
/-! Whole moves: 2x2 rows and a shift; bounds; Euclid. -/
namespace Mo
abbrev Rw := (Int × Int) × (Int × Int)
abbrev Mv := Rw × (Int × Int)
def det (r : Rw) : Int := r.1.1 * r.2.2 - r.1.2 * r.2.1
/-- the second one behind the first one -/
def rmul (one far : Rw) : Rw := ((far.1.1 * one.1.1 + far.1.2 * one.2.1, far.1.1 * one.1.2 + far.1.2 * one.2.2), (far.2.1 * one.1.1 + far.2.2 * one.2.1, far.2.1 * one.1.2 + far.2.2 * one.2.2))
def app (m : Mv) (p : Int × Int) : Int × Int := (m.1.1.1 * p.1 + m.1.1.2 * p.2 + m.2.1, m.1.2.1 * p.1 + m.1.2.2 * p.2 + m.2.2)
def mul (one far : Mv) : Mv := (rmul one.1 far.1, app far one.2)
def one : Mv := (((1, 0), (0, 1)), (0, 0))
theorem mul_assoc (a b c : Mv) : mul (mul a b) c = mul a (mul b c) := by
  obtain ⟨⟨⟨a1, a2⟩, ⟨a3, a4⟩⟩, ⟨a5, a6⟩⟩ := a
  obtain ⟨⟨⟨b1, b2⟩, ⟨b3, b4⟩⟩, ⟨b5, b6⟩⟩ := b
  obtain ⟨⟨⟨c1, c2⟩, ⟨c3, c4⟩⟩, ⟨c5, c6⟩⟩ := c
  simp only [mul, rmul, app, Prod.mk.injEq]
  refine ⟨⟨⟨?_, ?_⟩, ⟨?_, ?_⟩⟩, ⟨?_, ?_⟩⟩ <;> grind
theorem app_mul (a b : Mv) (p : Int × Int) : app (mul a b) p = app b (app a p) := by
  obtain ⟨⟨⟨a1, a2⟩, ⟨a3, a4⟩⟩, ⟨a5, a6⟩⟩ := a
  obtain ⟨⟨⟨b1, b2⟩, ⟨b3, b4⟩⟩, ⟨b5, b6⟩⟩ := b
  obtain ⟨p1, p2⟩ := p
  simp only [mul, rmul, app, Prod.mk.injEq]
  refine ⟨?_, ?_⟩ <;> grind
theorem mul_one (a : Mv) : mul a one = a := by
  obtain ⟨⟨⟨a1, a2⟩, ⟨a3, a4⟩⟩, ⟨a5, a6⟩⟩ := a
  simp [mul, rmul, app, one]
theorem one_mul (a : Mv) : mul one a = a := by
  obtain ⟨⟨⟨a1, a2⟩, ⟨a3, a4⟩⟩, ⟨a5, a6⟩⟩ := a
  simp [mul, rmul, app, one]
theorem det_rmul (a b : Rw) : det (rmul a b) = det a * det b := by
  obtain ⟨⟨a1, a2⟩, ⟨a3, a4⟩⟩ := a
  obtain ⟨⟨b1, b2⟩, ⟨b3, b4⟩⟩ := b
  simp only [det, rmul]
  grind
def Un (r : Rw) : Prop := det r = 1 ∨ det r = -1
theorem Un.mul {a b : Rw} (ha : Un a) (hb : Un b) : Un (rmul a b) := by
  unfold Un at *
  rw [det_rmul]
  rcases ha with e | e <;> rcases hb with f | f <;> rw [e, f] <;> simp
/-- rows that take back -/
def rinv (r : Rw) : Rw := ((det r * r.2.2, -(det r) * r.1.2), (-(det r) * r.2.1, det r * r.1.1))
theorem rmul_rinv (r : Rw) (h : Un r) : rmul r (rinv r) = ((1, 0), (0, 1)) := by
  have h2 : det r * det r = 1 := by rcases h with e | e <;> rw [e] <;> rfl
  obtain ⟨⟨a, b⟩, ⟨c, d⟩⟩ := r
  simp only [rmul, rinv, det, Prod.mk.injEq] at *
  refine ⟨⟨?_, ?_⟩, ⟨?_, ?_⟩⟩ <;> grind
theorem rinv_rmul (r : Rw) (h : Un r) : rmul (rinv r) r = ((1, 0), (0, 1)) := by
  have h2 : det r * det r = 1 := by rcases h with e | e <;> rw [e] <;> rfl
  obtain ⟨⟨a, b⟩, ⟨c, d⟩⟩ := r
  simp only [rmul, rinv, det, Prod.mk.injEq] at *
  refine ⟨⟨?_, ?_⟩, ⟨?_, ?_⟩⟩ <;> grind
theorem det_rinv (r : Rw) (h : Un r) : det (rinv r) = det r := by
  obtain ⟨⟨a, b⟩, ⟨c, d⟩⟩ := r
  unfold Un at h
  simp only [rinv, det] at *
  rcases h with e | e <;> rw [e] <;> grind
theorem un_rinv {r : Rw} (h : Un r) : Un (rinv r) := by unfold Un; rw [det_rinv r h]; exact h
theorem rmul_assoc (a b c : Rw) : rmul (rmul a b) c = rmul a (rmul b c) := by
  obtain ⟨⟨a1, a2⟩, ⟨a3, a4⟩⟩ := a
  obtain ⟨⟨b1, b2⟩, ⟨b3, b4⟩⟩ := b
  obtain ⟨⟨c1, c2⟩, ⟨c3, c4⟩⟩ := c
  simp only [rmul, Prod.mk.injEq]
  refine ⟨⟨?_, ?_⟩, ⟨?_, ?_⟩⟩ <;> grind
theorem rmul_id (a : Rw) : rmul a ((1, 0), (0, 1)) = a := by
  obtain ⟨⟨a1, a2⟩, ⟨a3, a4⟩⟩ := a
  simp [rmul]
theorem id_rmul (a : Rw) : rmul ((1, 0), (0, 1)) a = a := by
  obtain ⟨⟨a1, a2⟩, ⟨a3, a4⟩⟩ := a
  simp [rmul]
theorem rinv_rinv (r : Rw) (h : Un r) : rinv (rinv r) = r := by
  have h2 : det r * det r = 1 := by rcases h with e | e <;> rw [e] <;> rfl
  have h3 := det_rinv r h
  obtain ⟨⟨a, b⟩, ⟨c, d⟩⟩ := r
  unfold rinv
  rw [show (((det ((a, b), (c, d)) * ((a, b), (c, d)).2.2, -det ((a, b), (c, d)) * ((a, b), (c, d)).1.2), (-det ((a, b), (c, d)) * ((a, b), (c, d)).2.1, det ((a, b), (c, d)) * ((a, b), (c, d)).1.1)) : Rw) = rinv ((a, b), (c, d)) from rfl, h3]
  simp only [rinv, Prod.mk.injEq]
  generalize det ((a, b), (c, d)) = e at *
  refine ⟨⟨?_, ?_⟩, ⟨?_, ?_⟩⟩ <;> grind
/-- the whole move that takes back -/
def inv (m : Mv) : Mv := (rinv m.1, ((rinv m.1).1.1 * (0 - m.2.1) + (rinv m.1).1.2 * (0 - m.2.2), (rinv m.1).2.1 * (0 - m.2.1) + (rinv m.1).2.2 * (0 - m.2.2)))
theorem mul_inv (m : Mv) (h : Un m.1) : mul m (inv m) = one := by
  have h1 := rmul_rinv m.1 h
  unfold mul inv one
  rw [h1]
  simp only [app, Prod.mk.injEq, true_and]
  refine ⟨?_, ?_⟩ <;> grind
theorem inv_mul (m : Mv) (h : Un m.1) : mul (inv m) m = one := by
  have h1 := rinv_rmul m.1 h
  unfold mul inv one
  rw [h1]
  obtain ⟨r, ⟨s, t⟩⟩ := m
  simp only [rmul, Prod.mk.injEq] at h1
  obtain ⟨⟨e1, e2⟩, ⟨e3, e4⟩⟩ := h1
  simp only [app, Prod.mk.injEq, true_and]
  generalize rinv r = q at *
  obtain ⟨⟨q1, q2⟩, ⟨q3, q4⟩⟩ := q
  obtain ⟨⟨a, b⟩, ⟨c, d⟩⟩ := r
  simp only at *
  refine ⟨?_, ?_⟩ <;> grind
/-- all of a list behind one another -/
def prod : List Mv → Mv → Mv := fun l m => l.foldl mul m
theorem prod_app (l k : List Mv) (m : Mv) : prod (l ++ k) m = prod k (prod l m) := by unfold prod; rw [List.foldl_append]
theorem prod_eq (l : List Mv) (m : Mv) : prod l m = mul m (prod l one) := by
  induction l generalizing m with
  | nil => exact (mul_one m).symm
  | cons s l ih =>
    show prod l (mul m s) = mul m (prod l (mul one s))
    rw [ih, ih (mul one s), one_mul, mul_assoc]
/-! ### bounds -/
abbrev ab (x : Int) : Int := x.natAbs
/-- rows of a norm of at most q, a shift of at most h -/
def Nm (m : Mv) (q h : Int) : Prop := ab m.1.1.1 + ab m.1.1.2 ≤ q ∧ ab m.1.2.1 + ab m.1.2.2 ≤ q ∧ ab m.2.1 ≤ h ∧ ab m.2.2 ≤ h
theorem ab_add (x y : Int) : ab (x + y) ≤ ab x + ab y := by unfold ab; omega
theorem ab_mul (x y : Int) : ab (x * y) = ab x * ab y := by unfold ab; rw [Int.natAbs_mul]; rfl
theorem ab_nn (x : Int) : 0 ≤ ab x := by unfold ab; omega
theorem lin2 (e f x y q N : Int) (h : ab e + ab f ≤ q) (hx : ab x ≤ N) (hy : ab y ≤ N) : ab (e * x + f * y) ≤ q * N := by
  have h1 := ab_add (e * x) (f * y)
  rw [ab_mul, ab_mul] at h1
  have h2 : ab e * ab x ≤ ab e * N := Int.mul_le_mul_of_nonneg_left hx (ab_nn e)
  have h3 : ab f * ab y ≤ ab f * N := Int.mul_le_mul_of_nonneg_left hy (ab_nn f)
  have h4 : (ab e + ab f) * N ≤ q * N := Int.mul_le_mul_of_nonneg_right h (Int.le_trans (ab_nn x) hx)
  rw [Int.add_mul] at h4
  omega
theorem row2 (e f a b c d q N : Int) (h : ab e + ab f ≤ q) (hx : ab a + ab b ≤ N) (hy : ab c + ab d ≤ N) : ab (e * a + f * c) + ab (e * b + f * d) ≤ q * N := by
  have h1 := ab_add (e * a) (f * c)
  have h2 := ab_add (e * b) (f * d)
  rw [ab_mul, ab_mul] at h1 h2
  have h3 : ab e * (ab a + ab b) ≤ ab e * N := Int.mul_le_mul_of_nonneg_left hx (ab_nn e)
  have h4 : ab f * (ab c + ab d) ≤ ab f * N := Int.mul_le_mul_of_nonneg_left hy (ab_nn f)
  have h5 : (ab e + ab f) * N ≤ q * N := Int.mul_le_mul_of_nonneg_right h (Int.le_trans (Int.add_nonneg (ab_nn a) (ab_nn b)) hx)
  rw [Int.add_mul] at h5
  rw [Int.mul_add] at h3 h4
  omega
theorem Nm.mul {m s : Mv} {Q q H h : Int} (hm : Nm m Q H) (hs : Nm s q h) : Nm (mul m s) (q * Q) (q * H + h) := by
  obtain ⟨m1, m2, m3, m4⟩ := hm
  obtain ⟨s1, s2, s3, s4⟩ := hs
  refine ⟨row2 _ _ _ _ _ _ _ _ s1 m1 m2, row2 _ _ _ _ _ _ _ _ s2 m1 m2, ?_, ?_⟩
  · have := ab_add (s.1.1.1 * m.2.1 + s.1.1.2 * m.2.2) s.2.1
    have := lin2 _ _ _ _ _ _ s1 m3 m4
    show ab (s.1.1.1 * m.2.1 + s.1.1.2 * m.2.2 + s.2.1) ≤ _
    omega
  · have := ab_add (s.1.2.1 * m.2.1 + s.1.2.2 * m.2.2) s.2.2
    have := lin2 _ _ _ _ _ _ s2 m3 m4
    show ab (s.1.2.1 * m.2.1 + s.1.2.2 * m.2.2 + s.2.2) ≤ _
    omega
/-- entries that may be passed -/
abbrev G : Int := 10 ^ 60 - 1
def Le (m : Mv) (g : Int) : Prop := ab m.1.1.1 ≤ g ∧ ab m.1.1.2 ≤ g ∧ ab m.1.2.1 ≤ g ∧ ab m.1.2.2 ≤ g ∧ ab m.2.1 ≤ g ∧ ab m.2.2 ≤ g
structure Good (m : Mv) : Prop where
  un : Un m.1
  le : Le m G
theorem Nm.le {m : Mv} {q h g : Int} (n : Nm m q h) (hq : q ≤ g) (hh : h ≤ g) : Le m g := by
  obtain ⟨a, b, c, d⟩ := n
  have := ab_nn m.1.1.1; have := ab_nn m.1.1.2; have := ab_nn m.1.2.1; have := ab_nn m.1.2.2
  refine ⟨?_, ?_, ?_, ?_, ?_, ?_⟩ <;> omega
inductive Run : Mv → List Mv → Mv → Prop
  | nil {m : Mv} : Run m [] m
  | cons {m m' s : Mv} {l : List Mv} : Good m → Good s → Run (mul m s) l m' → Run m (s :: l) m'
theorem Run.app {m m1 m2 : Mv} {l k : List Mv} (h : Run m l m1) (h2 : Run m1 k m2) : Run m (l ++ k) m2 := by
  induction h with
  | nil => exact h2
  | cons a b c ih => exact .cons a b (ih h2)
theorem Run.eq {m m1 : Mv} {l : List Mv} (h : Run m l m1) : m1 = prod l m := by
  induction h with
  | nil => rfl
  | cons a b c ih => exact ih
/-- a list of moves: the product of norms, the shift -/
inductive Ch : Int → Int → List Mv → Int → Int → Prop
  | nil {Q H : Int} : Ch Q H [] Q H
  | cons {Q H Q' H' q h : Int} {s : Mv} {l : List Mv} : 1 ≤ q → 0 ≤ h → Un s.1 → Nm s q h → Ch (q * Q) (q * H + h) l Q' H' → Ch Q H (s :: l) Q' H'
theorem le_mulL {q Q : Int} (h : 1 ≤ q) (h0 : 0 ≤ Q) : Q ≤ q * Q := by
  have := Int.mul_le_mul_of_nonneg_right h h0
  omega
theorem Ch.mono {Q H Q' H' : Int} {l : List Mv} (c : Ch Q H l Q' H') (hQ : 0 ≤ Q) (hH : 0 ≤ H) : Q ≤ Q' ∧ H ≤ H' := by
  induction c with
  | nil => exact ⟨Int.le_refl _, Int.le_refl _⟩
  | cons h1 h2 h3 h4 h5 ih =>
    have a := le_mulL h1 hQ
    have b := le_mulL h1 hH
    obtain ⟨x, y⟩ := ih (by omega) (by omega)
    exact ⟨by omega, by omega⟩
/-- the norm of a step is bounded by what comes of it -/
theorem Ch.run {Q H Q' H' : Int} {l : List Mv} (c : Ch Q H l Q' H') : ∀ {m : Mv}, 1 ≤ Q → 0 ≤ H → Un m.1 → Nm m Q H → Q' ≤ G → H' ≤ G → Run m l (prod l m) ∧ Nm (prod l m) Q' H' ∧ Un (prod l m).1 := by
  induction c with
  | nil => exact fun _ _ u n _ _ => ⟨.nil, n, u⟩
  | @cons Q H Q' H' q h s l h1 h2 h3 h4 h5 ih =>
    intro m q1 q2 u n g1 g2
    have a := le_mulL h1 (show 0 ≤ Q by omega)
    have b := le_mulL h1 q2
    have a2 : q ≤ q * Q := by
      have := Int.mul_le_mul_of_nonneg_left q1 (show 0 ≤ q by omega)
      omega
    obtain ⟨x, y⟩ := h5.mono (by omega) (by omega)
    obtain ⟨r1, r2, r3⟩ := ih (m := mul m s) (by omega) (by omega) (u.mul h3) (n.mul h4) g1 g2
    exact ⟨.cons ⟨u, n.le (by omega) (by omega)⟩ ⟨h3, h4.le (by omega) (by omega)⟩ r1, r2, r3⟩
theorem Ch.app {Q H Q1 H1 Q2 H2 : Int} {l k : List Mv} (c : Ch Q H l Q1 H1) (d : Ch Q1 H1 k Q2 H2) : Ch Q H (l ++ k) Q2 H2 := by
  induction c with
  | nil => exact d
  | cons h1 h2 h3 h4 h5 ih => exact .cons h1 h2 h3 h4 (ih d)
theorem ch_unif {q h : Int} (hq : 1 ≤ q) (hh : 0 ≤ h) : ∀ (l : List Mv), (∀ s ∈ l, Un s.1 ∧ Nm s q h) → ∀ Q H : Int, ∃ H', Ch Q H l (q ^ l.length * Q) H' ∧ (q - 1) * H' + h = q ^ l.length * ((q - 1) * H + h)
  | [], _, Q, H => ⟨H, by simpa using Ch.nil, by simp⟩
  | s :: l, hl, Q, H => by
    obtain ⟨H', c, e⟩ := ch_unif hq hh l (fun x hx => hl x (List.mem_cons_of_mem _ hx)) (q * Q) (q * H + h)
    obtain ⟨u, n⟩ := hl s List.mem_cons_self
    refine ⟨H', ?_, ?_⟩
    · rw [List.length_cons, Int.pow_succ, Int.mul_assoc]; exact .cons hq hh u n c
    · rw [e, List.length_cons, Int.pow_succ]; generalize q ^ l.length = p; grind
/-- a row of steps taken back -/
def back1 (s : Mv) : List Mv := [(((1, 0), (0, 1)), (0 - s.2.1, 0 - s.2.2)), (rinv s.1, (0, 0))]
def backl : List Mv → List Mv
  | [] => []
  | s :: l => backl l ++ back1 s
theorem mul_back1 (m s : Mv) (h : Un s.1) : prod (back1 s) (mul m s) = m := by
  have h1 := rmul_rinv s.1 h
  show mul (mul (mul m s) _) _ = m
  rw [mul_assoc, mul_assoc]
  have : mul s (mul (((1, 0), (0, 1)), (0 - s.2.1, 0 - s.2.2)) (rinv s.1, (0, 0))) = one := by
    have := mul_inv s h
    unfold inv at this
    rw [← this]
    simp only [mul, rmul, app, Prod.mk.injEq]
    refine ⟨⟨⟨?_, ?_⟩, ⟨?_, ?_⟩⟩, ⟨?_, ?_⟩⟩ <;> grind
  rw [this, mul_one]
theorem prod_backl (l : List Mv) (h : ∀ s ∈ l, Un s.1) (m : Mv) : prod (backl l) (prod l m) = m := by
  induction l generalizing m with
  | nil => rfl
  | cons s l ih =>
    show prod (backl l ++ back1 s) (prod l (mul m s)) = m
    rw [prod_app, ih (fun x hx => h x (List.mem_cons_of_mem _ hx)), mul_back1 _ _ (h s List.mem_cons_self)]
theorem un_prod (l : List Mv) (h : ∀ s ∈ l, Un s.1) (m : Mv) (hm : Un m.1) : Un (prod l m).1 := by
  induction l generalizing m with
  | nil => exact hm
  | cons s l ih => exact ih (fun x hx => h x (List.mem_cons_of_mem _ hx)) (mul m s) (hm.mul (h s List.mem_cons_self))
/-- what takes back on the one side does so on the other one -/
theorem mul_swap {a b : Mv} (ha : Un a.1) (h : mul a b = one) : mul b a = one := by
  have : b = inv a := by
    rw [← one_mul b, ← inv_mul a ha, mul_assoc, h, mul_one]
  rw [this]; exact inv_mul a ha
theorem un_one : Un one.1 := .inl rfl
theorem backl_left (l : List Mv) (h : ∀ s ∈ l, Un s.1) : mul (prod l one) (prod (backl l) one) = one := by
  rw [← prod_eq]; exact prod_backl l h one
theorem backl_right (l : List Mv) (h : ∀ s ∈ l, Un s.1) : mul (prod (backl l) one) (prod l one) = one := mul_swap (un_prod l h one un_one) (backl_left l h)
/-- both a step and what takes it back are small -/
def Sm (s : Mv) (q h : Int) : Prop := Un s.1 ∧ Nm s q h ∧ Nm (rinv s.1, (0, 0)) q 0
theorem ab_zero : ab 0 = 0 := rfl
theorem ch_back {q h : Int} (hq : 1 ≤ q) (hh : 0 ≤ h) : ∀ (l : List Mv), (∀ s ∈ l, Sm s q h) → ∀ Q H : Int, ∃ H', Ch Q H (backl l) (q ^ l.length * Q) H' ∧ (q - 1) * H' + q * h = q ^ l.length * ((q - 1) * H + q * h)
  | [], _, Q, H => ⟨H, by simpa [backl] using Ch.nil, by simp⟩
  | s :: l, hl, Q, H => by
    obtain ⟨H1, c, e⟩ := ch_back hq hh l (fun x hx => hl x (List.mem_cons_of_mem _ hx)) Q H
    obtain ⟨u, n, n2⟩ := hl s List.mem_cons_self
    refine ⟨q * (1 * H1 + h) + 0, ?_, ?_⟩
    · refine c.app ?_
      rw [List.length_cons, Int.pow_succ, show q ^ l.length * q * Q = q * (1 * (q ^ l.length * Q)) by rw [Int.one_mul, ← Int.mul_assoc, Int.mul_comm q]]
      refine .cons (by decide) hh (.inl rfl) ⟨Int.le_refl 1, Int.le_refl 1, ?_, ?_⟩ (.cons hq (by decide) (un_rinv u) n2 .nil)
      · have := n.2.2.1
        show ab (0 - s.2.1) ≤ h
        unfold ab at *; omega
      · have := n.2.2.2
        show ab (0 - s.2.2) ≤ h
        unfold ab at *; omega
    · rw [List.length_cons, Int.pow_succ]
      generalize q ^ l.length = p at *
      grind
end Mo
/-! Euclid by floors, over rows and a shift -/
namespace Mo
theorem fmod_lt {a c : Int} (h : c ≠ 0) : (a.fmod c).natAbs < c.natAbs := by
  rcases Int.lt_or_gt_of_ne h with h | h
  · have e : a.fmod c = -((-a).fmod (-c)) := by
      rw [Int.fmod_def, Int.fmod_def, Int.neg_fdiv_neg]
      grind
    have h1 := Int.fmod_nonneg_of_pos (-a) (show 0 < -c by omega)
    have h2 := Int.fmod_lt_of_pos (-a) (show 0 < -c by omega)
    omega
  · have h1 := Int.fmod_nonneg_of_pos a h
    have h2 := Int.fmod_lt_of_pos a h
    omega
/-- two steps halve -/
theorem fmod_half {a c : Int} (h : c ≠ 0) (hr : a.fmod c ≠ 0) : 2 * (c.fmod (a.fmod c)).natAbs ≤ c.natAbs := by
  have key : ∀ c r : Int, 0 < r → r < c → 0 ≤ c.fmod r ∧ 2 * c.fmod r ≤ c := by
    intro c r h1 h2
    rw [Int.fmod_eq_emod_of_nonneg c (by omega)]
    have e := Int.emod_add_mul_ediv c r
    have e1 := Int.emod_nonneg c (show r ≠ 0 by omega)
    have e2 := Int.emod_lt_of_pos c h1
    have e3 : 1 ≤ c / r := Int.le_ediv_of_mul_le h1 (by omega)
    have e4 : r * 1 ≤ r * (c / r) := Int.mul_le_mul_of_nonneg_left e3 (by omega)
    omega
  have neg : ∀ a c : Int, (-a).fmod (-c) = -(a.fmod c) := by
    intro a c
    rw [Int.fmod_def, Int.fmod_def, Int.neg_fdiv_neg]
    grind
  rcases Int.lt_or_gt_of_ne h with h | h
  · have h1 := Int.fmod_nonneg_of_pos (-a) (show 0 < -c by omega)
    have h2 := Int.fmod_lt_of_pos (-a) (show 0 < -c by omega)
    rw [neg] at h1 h2
    obtain ⟨k1, k2⟩ := key (-c) (-(a.fmod c)) (by omega) (by omega)
    rw [neg] at k1 k2
    omega
  · have h1 := Int.fmod_nonneg_of_pos a h
    have h2 := Int.fmod_lt_of_pos a h
    obtain ⟨k1, k2⟩ := key c (a.fmod c) (by omega) (by omega)
    omega
def shear (q : Int) : Mv := (((1, 0 - q), (0, 1)), (0, 0))
def swap : Mv := (((0, 1), (1, 0)), (0, 0))
/-- the rows behind a turn -/
def nxt (r : Rw) : Rw := (r.2, (r.1.1 - r.1.1.fdiv r.2.1 * r.2.1, r.1.2 - r.1.1.fdiv r.2.1 * r.2.2))
def eucR : Nat → Rw → Rw
  | 0, r => r
  | n + 1, r => if r.2.1 = 0 then r else eucR n (nxt r)
def eucL : Nat → Rw → List Mv
  | 0, r => []
  | n + 1, r => if r.2.1 = 0 then [] else shear (r.1.1.fdiv r.2.1) :: swap :: eucL n (nxt r)
theorem nxt_low (r : Rw) : (nxt r).2.1 = r.1.1.fmod r.2.1 := by
  unfold nxt
  rw [Int.fmod_def, Int.mul_comm]
theorem eucR_stop {n : Nat} {r : Rw} (h : r.2.1 = 0) : eucR n r = r := by
  cases n with
  | zero => rfl
  | succ n => unfold eucR; rw [if_pos h]
theorem euc_end : ∀ (k n : Nat) (r : Rw), r.2.1.natAbs < 2 ^ k → 2 * k + 1 ≤ n → (eucR n r).2.1 = 0
  | 0, n, r, h, _ => by
    have : r.2.1 = 0 := by simp at h; omega
    rw [eucR_stop this]; exact this
  | k + 1, n + 2, r, h, hn => by
    unfold eucR
    split
    · assumption
    · rename_i c
      unfold eucR
      split
      · assumption
      · rename_i c2
        rw [nxt_low] at c2
        refine euc_end k n _ ?_ (by omega)
        rw [nxt_low, nxt_low]
        show (r.2.1.fmod (r.1.1.fmod r.2.1)).natAbs < _
        have := fmod_half c c2
        rw [Nat.pow_succ] at h
        omega
  | k + 1, 0, r, h, hn => by omega
  | k + 1, 1, r, h, hn => by omega
theorem eucL_len : ∀ (n : Nat) (r : Rw), (eucL n r).length ≤ 2 * n
  | 0, r => by simp [eucL]
  | n + 1, r => by
    unfold eucL
    split
    · simp
    · have := eucL_len n (nxt r)
      simp only [List.length_cons]
      omega
/-- a vector beside a column: what it stays below -/
theorem cross_le {a c x y X N : Int} (hc : c ≠ 0) (hX : ab (a * y - c * x) ≤ X) (hy : ab y ≤ N) (hX0 : 0 ≤ X) : ab (x - a.fdiv c * y) ≤ N + X := by
  have e : c * (x - a.fdiv c * y) = a.fmod c * y - (a * y - c * x) := by
    rw [Int.fmod_def]; grind
  have h1 : ab (a.fmod c * y - (a * y - c * x)) ≤ ab (a.fmod c) * ab y + X := by
    have := ab_add (a.fmod c * y) (-(a * y - c * x))
    rw [ab_mul] at this
    have e2 : ab (-(a * y - c * x)) = ab (a * y - c * x) := by unfold ab; rw [Int.natAbs_neg]
    rw [Int.sub_eq_add_neg]
    omega
  have h2 : ab (a.fmod c) ≤ ab c := by have := fmod_lt (a := a) hc; unfold ab; omega
  have h3 : ab (a.fmod c) * ab y ≤ ab c * ab y := Int.mul_le_mul_of_nonneg_right h2 (ab_nn y)
  have h4 : ab c * ab (x - a.fdiv c * y) ≤ ab c * ab y + X := by
    rw [← ab_mul, e]; omega
  have h5 : 1 ≤ ab c := by unfold ab; omega
  have h6 : X ≤ ab c * X := le_mulL h5 hX0
  have h7 : ab c * ab (x - a.fdiv c * y) ≤ ab c * (ab y + X) := by rw [Int.mul_add]; omega
  have h8 := Int.le_of_mul_le_mul_left h7 (by omega)
  omega
theorem cross_eq (a c x y q : Int) : c * (x - q * y) - (a - q * c) * y = -(a * y - c * x) := by grind
theorem ab_neg (x : Int) : ab (-x) = ab x := by unfold ab; rw [Int.natAbs_neg]
theorem fdiv_ab (a c : Int) (h : c ≠ 0) : ab (a.fdiv c) ≤ ab a := by
  have pos : ∀ a c : Int, 0 < c → ab (a.fdiv c) ≤ ab a := by
    intro a c h
    rw [Int.fdiv_eq_ediv_of_nonneg a (by omega)]
    have := Int.natAbs_ediv_le_natAbs a c
    unfold ab; omega
  rcases Int.lt_or_gt_of_ne h with h | h
  · have := pos (-a) (-c) (by omega)
    rw [Int.neg_fdiv_neg, ab_neg] at this
    exact this
  · exact pos a c h
/-- all of Euclid's steps may be taken, behind any rows -/
theorem euc_run : ∀ (n : Nat) (r : Rw) (v : Int × Int) (A B X N : Int), Un r → 0 ≤ X → 0 ≤ A → 0 ≤ N → ab r.1.1 ≤ A → ab r.2.1 ≤ A → ab r.1.2 ≤ B → ab r.2.2 ≤ B + 1 → ab (r.1.1 * v.2 - r.2.1 * v.1) ≤ X → ab v.1 ≤ N → ab v.2 ≤ N + X →
    A ≤ G → B + 1 + n ≤ G → N + X + n * X ≤ G →
    ∃ v' : Int × Int, Run (r, v) (eucL n r) (eucR n r, v') ∧ Un (eucR n r) ∧ Le (eucR n r, v') (A + (B + 1 + n) + (N + X + n * X)) ∧ ab (eucR n r).1.2 ≤ B + n ∧ ab (eucR n r).2.2 ≤ B + 1 + n ∧ ab (eucR n r).1.1 ≤ A ∧ ab (eucR n r).2.1 ≤ A ∧ ab v'.1 ≤ N + X + n * X ∧ ab v'.2 ≤ N + X + n * X
  | 0, r, v, A, B, X, N, u, X0, A0, N0, a1, a2, b1, b2, x0, x1, x2, g1, g2, g3 => by
    refine ⟨v, .nil, u, ⟨?_, ?_, ?_, ?_, ?_, ?_⟩, ?_, ?_, a1, a2, ?_, ?_⟩ <;> (try unfold eucR) <;> (simp only [Int.natCast_zero, Int.zero_mul] at *) <;> (have := ab_nn r.1.2; omega)
  | n + 1, r, v, A, B, X, N, u, X0, A0, N0, a1, a2, b1, b2, x0, x1, x2, g1, g2, g3 => by
    have B0 : 0 ≤ B := Int.le_trans (ab_nn _) b1
    have c1 : ((n + 1 : Nat) : Int) = (n : Int) + 1 := by omega
    have c2 : ((n + 1 : Nat) : Int) * X = n * X + X := by rw [c1, Int.add_mul, Int.one_mul]
    have c3 : 0 ≤ (n : Int) * X := Int.mul_nonneg (by omega) X0
    by_cases z : r.2.1 = 0
    · unfold eucR eucL
      rw [if_pos z, if_pos z]
      refine ⟨v, .nil, u, ⟨?_, ?_, ?_, ?_, ?_, ?_⟩, ?_, ?_, a1, a2, ?_, ?_⟩ <;> (try simp only) <;> omega
    · unfold eucR eucL
      rw [if_neg z, if_neg z]
      have f1 := fmod_lt (a := r.1.1) z
      have f2 := fdiv_ab r.1.1 r.2.1 z
      have f3 : r.1.1 - r.1.1.fdiv r.2.1 * r.2.1 = r.1.1.fmod r.2.1 := by rw [Int.fmod_def, Int.mul_comm]
      have hd : ab (r.1.1 * r.2.2 - r.2.1 * r.1.2) ≤ 1 := by
        have : r.1.1 * r.2.2 - r.2.1 * r.1.2 = det r := by unfold det; grind
        rw [this]
        rcases u with e | e <;> rw [e] <;> decide
      have k1 := cross_le z hd b2 (by decide)
      have k2 := cross_le z x0 x2 X0
      have u2 : Un (nxt r) := by
        have : det (nxt r) = -(det r) := by unfold nxt det; grind
        unfold Un at *; omega
      have hs : Un (shear (r.1.1.fdiv r.2.1)).1 := .inl (by simp [shear, det])
      have hs2 : Un swap.1 := .inr (by simp [swap, det])
      have m1 : mul (r, v) (shear (r.1.1.fdiv r.2.1)) = (((r.1.1 - r.1.1.fdiv r.2.1 * r.2.1, r.1.2 - r.1.1.fdiv r.2.1 * r.2.2), r.2), (v.1 - r.1.1.fdiv r.2.1 * v.2, v.2)) := by
        simp only [mul, rmul, app, shear]
        refine Prod.ext (Prod.ext (Prod.ext ?_ ?_) (Prod.ext ?_ ?_)) (Prod.ext ?_ ?_) <;> simp only <;> grind
      have m2 : mul (mul (r, v) (shear (r.1.1.fdiv r.2.1))) swap = (nxt r, (v.2, v.1 - r.1.1.fdiv r.2.1 * v.2)) := by
        rw [m1]
        simp only [mul, rmul, app, swap, nxt]
        refine Prod.ext (Prod.ext (Prod.ext ?_ ?_) (Prod.ext ?_ ?_)) (Prod.ext ?_ ?_) <;> simp only <;> grind
      have hx : ab ((nxt r).1.1 * (v.1 - r.1.1.fdiv r.2.1 * v.2) - (nxt r).2.1 * v.2) ≤ X := by
        have := cross_eq r.1.1 r.2.1 v.1 v.2 (r.1.1.fdiv r.2.1)
        unfold nxt
        rw [this, ab_neg]; exact x0
      obtain ⟨v', h1, h2, h3, h4, h5, h6, h7, h8, h9⟩ := euc_run n (nxt r) (v.2, v.1 - r.1.1.fdiv r.2.1 * v.2) A (B + 1) X (N + X) u2 X0 A0 (by omega) (by unfold nxt; omega) (by rw [nxt_low]; unfold ab at *; omega) (by unfold nxt; omega) (by unfold nxt; omega) hx x2 k2 g1 (by omega) (by omega)
      refine ⟨v', .cons ⟨u, ⟨?_, ?_, ?_, ?_, ?_, ?_⟩⟩ ⟨hs, ⟨?_, ?_, ?_, ?_, ?_, ?_⟩⟩ (.cons ⟨u.mul hs, ?_⟩ ⟨hs2, ?_⟩ ?_), h2, ?_, ?_, ?_, h6, h7, ?_, ?_⟩
      · show ab r.1.1 ≤ G; omega
      · show ab r.1.2 ≤ G; omega
      · show ab r.2.1 ≤ G; omega
      · show ab r.2.2 ≤ G; omega
      · show ab v.1 ≤ G; omega
      · show ab v.2 ≤ G; omega
      · show ab 1 ≤ G; decide
      · show ab (0 - _) ≤ G
        rw [Int.zero_sub, ab_neg]; omega
      · show ab 0 ≤ G; decide
      · show ab 1 ≤ G; decide
      · show ab 0 ≤ G; decide
      · show ab 0 ≤ G; decide
      · rw [m1]
        refine ⟨?_, ?_, ?_, ?_, ?_, ?_⟩ <;> simp only
        · rw [f3]; unfold ab at *; omega
        · omega
        · omega
        · omega
        · omega
        · omega
      · exact ⟨by decide, by decide, by decide, by decide, by decide, by decide⟩
      · rw [m2]; exact h1
      · obtain ⟨q1, q2, q3, q4, q5, q6⟩ := h3
        refine ⟨?_, ?_, ?_, ?_, ?_, ?_⟩ <;> omega
      · omega
      · omega
      · omega
      · omega
end Mo
/-! A whole move as shears and mirrors; in how many times one comes again -/
namespace Mo
def neg1 : Mv := (((-1, 0), (0, 1)), (0, 0))
def neg2 : Mv := (((1, 0), (0, -1)), (0, 0))
def b2 (r : Rw) : Int := if r.1.1 < 0 then 0 - r.1.2 else r.1.2
def undT (r : Rw) : List Mv := (if r.1.1 < 0 then [neg1] else []) ++ ((if r.2.2 < 0 then [neg2] else []) ++ [shear (b2 r)])
def undL (r : Rw) : List Mv := eucL 400 r ++ undT (eucR 400 r)
theorem good_of {m : Mv} (u : Un m.1) {g : Int} (h : Le m g) (hg : g ≤ G) : Good m := ⟨u, by
  obtain ⟨a, b, c, d, e, f⟩ := h
  refine ⟨?_, ?_, ?_, ?_, ?_, ?_⟩ <;> omega⟩
theorem good_neg1 : Good neg1 := ⟨.inr (by decide), by refine ⟨?_, ?_, ?_, ?_, ?_, ?_⟩ <;> decide⟩
theorem good_neg2 : Good neg2 := ⟨.inr (by decide), by refine ⟨?_, ?_, ?_, ?_, ?_, ?_⟩ <;> decide⟩
theorem good_shear {b : Int} (h : ab b ≤ G) : Good (shear b) := ⟨.inl (by simp [shear, det]), by
  refine ⟨?_, ?_, ?_, ?_, ?_, ?_⟩
  · show ab 1 ≤ G; decide
  · show ab (0 - b) ≤ G
    rw [Int.zero_sub, ab_neg]; exact h
  · show ab 0 ≤ G; decide
  · show ab 1 ≤ G; decide
  · show ab 0 ≤ G; decide
  · show ab 0 ≤ G; decide⟩
theorem one_mul' {x y : Int} (h : x * y = 1 ∨ x * y = -1) : (x = 1 ∨ x = -1) ∧ (y = 1 ∨ y = -1) := by
  have key : ∀ x y : Int, x * y = 1 → (x = 1 ∨ x = -1) ∧ (y = 1 ∨ y = -1) := fun x y h => by
    have h1 : x.natAbs * y.natAbs = 1 := by rw [← Int.natAbs_mul, h]; rfl
    have h2 := Nat.eq_one_of_mul_eq_one_right h1
    have h3 := Nat.eq_one_of_mul_eq_one_left h1
    omega
  rcases h with h | h
  · exact key x y h
  · obtain ⟨a, b⟩ := key (-x) y (by rw [Int.neg_mul]; omega)
    exact ⟨by omega, b⟩
theorem undT_run {r : Rw} {v : Int × Int} {g : Int} (u : Un r) (hc : r.2.1 = 0) (h : Le (r, v) g) (hg : g ≤ G) : ∃ v', Run (r, v) (undT r) (((1, 0), (0, 1)), v') := by
  obtain ⟨⟨a, b⟩, ⟨c, d⟩⟩ := r
  simp only at hc
  subst hc
  obtain ⟨ha, hd⟩ : (a = 1 ∨ a = -1) ∧ (d = 1 ∨ d = -1) := one_mul' (by unfold Un det at u; simp only at u; omega)
  obtain ⟨h1, h2, h3, h4, h5, h6⟩ := h
  simp only at *
  have hb : ab (0 - b) = ab b := by rw [Int.zero_sub, ab_neg]
  have st1 : mul (((-1, b), (0, d)), v) neg1 = (((1, 0 - b), (0, d)), (0 - v.1, v.2)) := by simp [mul, rmul, app, neg1]
  have st2 : ∀ (b : Int) (v : Int × Int), mul (((1, b), (0, -1)), v) neg2 = (((1, b), (0, 1)), (v.1, 0 - v.2)) := fun b v => by simp [mul, rmul, app, neg2]
  have st3 : ∀ (b : Int) (v : Int × Int), mul (((1, b), (0, 1)), v) (shear b) = (((1, 0), (0, 1)), (v.1 - b * v.2, v.2)) := fun b v => by
    simp only [mul, rmul, app, shear]
    refine Prod.ext (Prod.ext (Prod.ext ?_ ?_) (Prod.ext ?_ ?_)) (Prod.ext ?_ ?_) <;> simp only <;> grind
  have n1 : ∀ x : Int, ab (0 - x) = ab x := fun x => by rw [Int.zero_sub, ab_neg]
  have fin : ∀ (b : Int) (v : Int × Int), ab b ≤ G → ab v.1 ≤ G → ab v.2 ≤ G → Run (((1, b), (0, 1)), v) [shear b] (((1, 0), (0, 1)), (v.1 - b * v.2, v.2)) := fun b v e1 e2 e3 =>
    .cons ⟨.inl (by simp [det]), by refine ⟨?_, ?_, ?_, ?_, ?_, ?_⟩ <;> first | exact e1 | exact e2 | exact e3 | (show ab 1 ≤ G; decide) | (show ab 0 ≤ G; decide)⟩ (good_shear e1) (by rw [st3]; exact .nil)
  have fin2 : ∀ (b d : Int) (v : Int × Int), d = 1 ∨ d = -1 → ab b ≤ G → ab v.1 ≤ G → ab v.2 ≤ G → ∃ v', Run (((1, b), (0, d)), v) ((if d < 0 then [neg2] else []) ++ [shear b]) (((1, 0), (0, 1)), v') := fun b d v hd e1 e2 e3 => by
    rcases hd with rfl | rfl
    · exact ⟨_, fin b v e1 e2 e3⟩
    · refine ⟨(v.1 - b * (0 - v.2), 0 - v.2), .cons ⟨.inr (by simp [det]), ?_⟩ good_neg2 ?_⟩
      · refine ⟨?_, ?_, ?_, ?_, ?_, ?_⟩ <;> first | exact e1 | exact e2 | exact e3 | (show ab 1 ≤ G; decide) | (show ab (-1) ≤ G; decide) | (show ab 0 ≤ G; decide)
      · rw [st2]
        exact fin b _ e1 e2 (by show ab (0 - v.2) ≤ G; rw [n1]; exact e3)
  rcases ha with rfl | rfl
  · exact fin2 b d v hd (by omega) (by omega) (by omega)
  · obtain ⟨v', hr⟩ := fin2 (0 - b) d (0 - v.1, v.2) hd (by omega) (by show ab (0 - v.1) ≤ G; rw [n1]; omega) (by show ab v.2 ≤ G; omega)
    refine ⟨v', ?_⟩
    show Run _ ([neg1] ++ _) _
    refine .cons ⟨?_, ?_⟩ good_neg1 ?_
    · exact u
    · refine ⟨?_, ?_, ?_, ?_, ?_, ?_⟩ <;> simp only <;> omega
    · rw [st1]; exact hr
theorem und_run {m : Mv} {A H X : Int} (u : Un m.1) (n : Nm m A H) (hx : ab (inv m).2.2 ≤ X) (hA : A ≤ 10 ^ 40) (hH : H ≤ 10 ^ 45) (hX : X ≤ 10 ^ 50) : ∃ v', Run m (undL m.1) (((1, 0), (0, 1)), v') := by
  obtain ⟨r, v⟩ := m
  obtain ⟨n1, n2, n3, n4⟩ := n
  simp only at *
  have p1 := ab_nn r.1.1; have p2 := ab_nn r.1.2; have p3 := ab_nn r.2.1; have p4 := ab_nn r.2.2; have p5 := ab_nn v.1
  have hX0 : 0 ≤ X := Int.le_trans (ab_nn _) hx
  have hx2 : ab (r.1.1 * v.2 - r.2.1 * v.1) ≤ X := by
    have e : (inv (r, v)).2.2 = -(det r) * (r.1.1 * v.2 - r.2.1 * v.1) := by
      unfold inv rinv; simp only; grind
    rw [e] at hx
    rcases u with z | z <;> rw [z] at hx
    · rw [show -(1 : Int) * (r.1.1 * v.2 - r.2.1 * v.1) = -(r.1.1 * v.2 - r.2.1 * v.1) by omega, ab_neg] at hx; exact hx
    · rw [show -(-1 : Int) * (r.1.1 * v.2 - r.2.1 * v.1) = (r.1.1 * v.2 - r.2.1 * v.1) by omega] at hx; exact hx
  obtain ⟨v', h1, h2, h3, h4, h5, h6, h7, h8, h9⟩ := euc_run 400 r v A A X H u hX0 (by omega) (by omega) (by omega) (by omega) (by omega) (by omega) hx2 (by omega) (by omega) (by unfold G; omega) (by unfold G; omega) (by unfold G; omega)
  have hc : (eucR 400 r).2.1 = 0 := euc_end 199 400 r (by
    have : ab r.2.1 ≤ 10 ^ 40 := by omega
    have h2 : r.2.1.natAbs ≤ 10 ^ 40 := by unfold ab at this; omega
    exact Nat.lt_of_le_of_lt h2 (by decide)) (by decide)
  obtain ⟨v2, h10⟩ := undT_run h2 hc h3 (by unfold G; omega)
  exact ⟨v2, h1.app h10⟩
/-! ### how often -/
def pw : Nat → Mv → Mv
  | 0, _ => one
  | n + 1, m => mul (pw n m) m
def conj (a b m : Mv) : Mv := mul (mul b m) a
theorem conj_mul {a b : Mv} (h : mul a b = one) (x y : Mv) : mul (conj a b x) (conj a b y) = conj a b (mul x y) := by
  unfold conj
  rw [mul_assoc (mul b x) a, mul_assoc b y a, ← mul_assoc a b, h, one_mul, mul_assoc b x, mul_assoc b (mul x y), mul_assoc x y a]
theorem conj_one {a b : Mv} (h : mul b a = one) : conj a b one = one := by unfold conj; rw [mul_one, h]
theorem conj_pw {a b : Mv} (h : mul a b = one) (h2 : mul b a = one) (m : Mv) : ∀ n, pw n (conj a b m) = conj a b (pw n m)
  | 0 => (conj_one h2).symm
  | n + 1 => by
    show mul (pw n (conj a b m)) (conj a b m) = conj a b (mul (pw n m) m)
    rw [conj_pw h h2 m n, conj_mul h]
theorem conj_eq_one {a b : Mv} (h : mul a b = one) (h2 : mul b a = one) (m : Mv) : conj a b m = one ↔ m = one := by
  refine ⟨fun e => ?_, fun e => by rw [e]; exact conj_one h2⟩
  unfold conj at e
  have e1 : mul (mul a (mul (mul b m) a)) b = mul (mul a one) b := by rw [e]
  rw [mul_one, h, mul_assoc a, mul_assoc (mul b m), h, mul_one, ← mul_assoc a b, h, one_mul] at e1
  exact e1
def tr (r : Rw) : Int := r.1.1 + r.2.2
theorem tr_conj (a b m : Mv) (h : rmul a.1 b.1 = ((1, 0), (0, 1))) : tr (conj a b m).1 = tr m.1 := by
  obtain ⟨⟨⟨a1, a2⟩, ⟨a3, a4⟩⟩, ⟨a5, a6⟩⟩ := a
  obtain ⟨⟨⟨b1, b2⟩, ⟨b3, b4⟩⟩, ⟨b5, b6⟩⟩ := b
  obtain ⟨⟨⟨c1, c2⟩, ⟨c3, c4⟩⟩, ⟨c5, c6⟩⟩ := m
  simp only [conj, mul, rmul, tr, Prod.mk.injEq] at *
  obtain ⟨⟨e1, e2⟩, ⟨e3, e4⟩⟩ := h
  have : (a1 * (c1 * b1 + c2 * b3) + a2 * (c3 * b1 + c4 * b3)) + (a3 * (c1 * b2 + c2 * b4) + a4 * (c3 * b2 + c4 * b4)) = c1 * (b1 * a1 + b2 * a3) + c2 * (b3 * a1 + b4 * a3) + c3 * (b1 * a2 + b2 * a4) + c4 * (b3 * a2 + b4 * a4) := by grind
  rw [this, e1, e2, e3, e4]; grind
theorem det_conj (a b m : Mv) (h : det a.1 * det b.1 = 1) : det (conj a b m).1 = det m.1 := by
  show det (rmul (rmul b.1 m.1) a.1) = _
  rw [det_rmul, det_rmul]
  have : det b.1 * det m.1 * det a.1 = det m.1 * (det a.1 * det b.1) := by grind
  rw [this, h, Int.mul_one]
/-- by its rows and its shift -/
def times (m : Mv) : Option Int :=
  if m.1 = ((1, 0), (0, 1)) then (if m.2 = (0, 0) then some 1 else none)
  else if det m.1 = -1 then (if tr m.1 = 0 ∧ ((m.1.1.1 + 1) * m.2.1 + m.1.1.2 * m.2.2, m.1.2.1 * m.2.1 + (m.1.2.2 + 1) * m.2.2) = (0, 0) then some 2 else none)
  else if m.1 = ((-1, 0), (0, -1)) then some 2
  else if tr m.1 = -1 then some 3 else if tr m.1 = 0 then some 4 else if tr m.1 = 1 then some 6 else none
/-- the first time that it comes again, of twelve -/
def first (m : Mv) : Option Int := [1, 2, 3, 4, 5, 6, 7, 8, 9, 10, 11, 12].foldl (fun told n => if told.isNone && decide (pw n m = one) then some (n : Int) else told) none
theorem rows_conj {a b m : Mv} (h : mul a b = one) (h2 : mul b a = one) (r : Rw) (hr : ∀ x : Rw, rmul x r = rmul r x) : (conj a b m).1 = r ↔ m.1 = r := by
  have g1 : rmul a.1 b.1 = ((1, 0), (0, 1)) := congrArg Prod.fst h
  have g2 : rmul b.1 a.1 = ((1, 0), (0, 1)) := congrArg Prod.fst h2
  show rmul (rmul b.1 m.1) a.1 = r ↔ _
  refine ⟨fun e => ?_, fun e => by rw [e, rmul_assoc, ← hr, ← rmul_assoc, g2, id_rmul]⟩
  have e1 : rmul (rmul a.1 (rmul (rmul b.1 m.1) a.1)) b.1 = rmul (rmul a.1 r) b.1 := by rw [e]
  rw [rmul_assoc a.1, rmul_assoc (rmul b.1 m.1), g1, rmul_id, ← rmul_assoc a.1 b.1, g1, id_rmul] at e1
  rw [e1, rmul_assoc, ← hr, ← rmul_assoc, g1, id_rmul]
theorem times_conj {a b m : Mv} (h : mul a b = one) (h2 : mul b a = one) : times (conj a b m) = times m := by
  have g1 : rmul a.1 b.1 = ((1, 0), (0, 1)) := congrArg Prod.fst h
  have i1 := rows_conj (m := m) h h2 ((1, 0), (0, 1)) (fun x => by rw [rmul_id, id_rmul])
  have i2 := rows_conj (m := m) h h2 ((-1, 0), (0, -1)) (fun x => by
    obtain ⟨⟨a1, a2⟩, ⟨a3, a4⟩⟩ := x
    simp [rmul])
  have i3 : tr (conj a b m).1 = tr m.1 := tr_conj a b m g1
  have i4 : det (conj a b m).1 = det m.1 := det_conj a b m (by
    have := congrArg det g1
    rw [det_rmul] at this
    rw [Int.mul_comm] at this
    rw [Int.mul_comm]; exact this)
  have sq : ∀ x : Mv, det x.1 = -1 → tr x.1 = 0 → (((x.1.1.1 + 1) * x.2.1 + x.1.1.2 * x.2.2, x.1.2.1 * x.2.1 + (x.1.2.2 + 1) * x.2.2) = ((0 : Int), (0 : Int)) ↔ mul x x = one) := by
    intro x e1 e2
    obtain ⟨⟨⟨a, b⟩, ⟨c, d⟩⟩, ⟨s, t⟩⟩ := x
    simp only [det, tr, mul, rmul, app, one, Prod.mk.injEq] at *
    constructor
    · intro ⟨z1, z2⟩
      refine ⟨⟨⟨?_, ?_⟩, ⟨?_, ?_⟩⟩, ⟨?_, ?_⟩⟩ <;> grind
    · intro ⟨_, ⟨z1, z2⟩⟩
      refine ⟨?_, ?_⟩ <;> grind
  have iS : mul (conj a b m) (conj a b m) = one ↔ mul m m = one := by
    rw [conj_mul h, conj_eq_one h h2]
  have iO := conj_eq_one h h2 m
  unfold times
  by_cases c1 : m.1 = ((1, 0), (0, 1))
  · rw [if_pos (i1.mpr c1), if_pos c1]
    by_cases c2 : m.2 = (0, 0)
    · have : m = one := Prod.ext c1 c2
      rw [if_pos c2, if_pos (by rw [iO.mpr this]; rfl)]
    · rw [if_neg c2, if_neg (fun z => c2 (by rw [iO.mp (Prod.ext (i1.mpr c1) z)]; rfl))]
  · rw [if_neg (fun z => c1 (i1.mp z)), if_neg c1, i4, i3]
    by_cases c2 : det m.1 = -1
    · rw [if_pos c2, if_pos c2]
      by_cases c3 : tr m.1 = 0
      · have e1 := sq m c2 c3
        have e2 := sq (conj a b m) (by rw [i4]; exact c2) (by rw [i3]; exact c3)
        by_cases c4 : mul m m = one
        · rw [if_pos ⟨c3, e2.mpr (iS.mpr c4)⟩, if_pos ⟨c3, e1.mpr c4⟩]
        · rw [if_neg (fun z => c4 (iS.mp (e2.mp z.2))), if_neg (fun z => c4 (e1.mp z.2))]
      · rw [if_neg (fun z => c3 z.1), if_neg (fun z => c3 z.1)]
    · rw [if_neg c2, if_neg c2]
      by_cases c3 : m.1 = ((-1, 0), (0, -1))
      · rw [if_pos (i2.mpr c3), if_pos c3]
      · rw [if_neg (fun z => c3 (i2.mp z)), if_neg c3]
theorem first_conj {a b m : Mv} (h : mul a b = one) (h2 : mul b a = one) : first (conj a b m) = first m := by
  have : (fun (told : Option Int) (n : Nat) => if told.isNone && decide (pw n (conj a b m) = one) then some (n : Int) else told) = (fun told n => if told.isNone && decide (pw n m = one) then some (n : Int) else told) := by
    funext told n
    rw [conj_pw h h2]
    have : decide (conj a b (pw n m) = one) = decide (pw n m = one) := by
      rw [decide_eq_decide]; exact conj_eq_one h h2 _
    rw [this]
  unfold first
  rw [this]
def kinds : List Rw := [((0, -1), (1, 0)), ((0, -1), (1, 1)), ((0, -1), (1, -1)), ((-1, 0), (0, -1)), ((1, 0), (0, -1)), ((0, 1), (1, 0)), ((1, 1), (0, 1)), ((2, 1), (1, 1)), ((1, 0), (0, 1))]
theorem kinds_ok : ∀ r ∈ kinds, ∀ s ∈ ([-1, 0, 1] : List Int), ∀ t ∈ ([-1, 0, 1] : List Int), first (r, (s, t)) = times (r, (s, t)) := by decide +kernel
end Mo
/-! The whole form of columns, by rows that may be led -/
namespace Mo
def ap (L : Rw) (p : Int × Int) : Int × Int := (L.1.1 * p.1 + L.1.2 * p.2, L.2.1 * p.1 + L.2.2 * p.2)
theorem ap_rmul (a b : Rw) (p : Int × Int) : ap (rmul a b) p = ap b (ap a p) := by
  obtain ⟨⟨a1, a2⟩, ⟨a3, a4⟩⟩ := a
  obtain ⟨⟨b1, b2⟩, ⟨b3, b4⟩⟩ := b
  obtain ⟨p1, p2⟩ := p
  simp only [ap, rmul, Prod.mk.injEq]
  refine ⟨?_, ?_⟩ <;> grind
theorem ap_id (p : Int × Int) : ap ((1, 0), (0, 1)) p = p := by simp [ap]
/-- the second row less so many times the first one -/
def low (q : Int) (L : Rw) : Rw := (L.1, (L.2.1 - q * L.1.1, L.2.2 - q * L.1.2))
def high (q : Int) (L : Rw) : Rw := ((L.1.1 - q * L.2.1, L.1.2 - q * L.2.2), L.2)
def swp (L : Rw) : Rw := (L.2, L.1)
def ng0 (L : Rw) : Rw := ((-L.1.1, -L.1.2), L.2)
def ng1 (L : Rw) : Rw := (L.1, (-L.2.1, -L.2.2))
theorem un_low {q : Int} {L : Rw} (h : Un L) : Un (low q L) := by
  have : det (low q L) = det L := by unfold det low; grind
  unfold Un; rw [this]; exact h
theorem un_high {q : Int} {L : Rw} (h : Un L) : Un (high q L) := by
  have : det (high q L) = det L := by unfold det high; grind
  unfold Un; rw [this]; exact h
theorem un_swp {L : Rw} (h : Un L) : Un (swp L) := by
  have : det (swp L) = -det L := by unfold det swp; grind
  unfold Un at *; rw [this]; omega
theorem un_ng0 {L : Rw} (h : Un L) : Un (ng0 L) := by
  have : det (ng0 L) = -det L := by unfold det ng0; grind
  unfold Un at *; rw [this]; omega
theorem un_ng1 {L : Rw} (h : Un L) : Un (ng1 L) := by
  have : det (ng1 L) = -det L := by unfold det ng1; grind
  unfold Un at *; rw [this]; omega
theorem ap_low (q : Int) (L : Rw) (p : Int × Int) : ap (low q L) p = ((ap L p).1, (ap L p).2 - q * (ap L p).1) := by
  unfold ap low; simp only [Prod.mk.injEq, true_and]; grind
theorem ap_high (q : Int) (L : Rw) (p : Int × Int) : ap (high q L) p = ((ap L p).1 - q * (ap L p).2, (ap L p).2) := by
  unfold ap high; simp only [Prod.mk.injEq, and_true]; grind
theorem ap_swp (L : Rw) (p : Int × Int) : ap (swp L) p = ((ap L p).2, (ap L p).1) := rfl
theorem ap_ng0 (L : Rw) (p : Int × Int) : ap (ng0 L) p = (-(ap L p).1, (ap L p).2) := by
  unfold ap ng0; simp only [Prod.mk.injEq, and_true]; grind
theorem ap_ng1 (L : Rw) (p : Int × Int) : ap (ng1 L) p = ((ap L p).1, -(ap L p).2) := by
  unfold ap ng1; simp only [Prod.mk.injEq, true_and]; grind
/-- one step to a second row with 0 at a place -/
def clr1 (c : Int × Int) (L : Rw) : Rw := if (ap L c).1 ≠ 0 then low ((ap L c).2.fdiv (ap L c).1) L else L
def clr (c : Int × Int) (L : Rw) : Rw := if (ap (clr1 c L) c).2 ≠ 0 then swp (clr1 c L) else clr1 c L
theorem clr1_z {c : Int × Int} {L : Rw} (h : (ap L c).1 = 0) : clr1 c L = L := by unfold clr1; rw [if_neg (by simpa using h)]
theorem clr1_n {c : Int × Int} {L : Rw} (h : (ap L c).1 ≠ 0) : clr1 c L = low ((ap L c).2.fdiv (ap L c).1) L := by unfold clr1; rw [if_pos h]
def clrN : Nat → (Int × Int) → Rw → Rw
  | 0, _, L => L
  | n + 1, c, L => if (ap L c).2 = 0 then L else clrN n c (clr c L)
theorem un_clr {c : Int × Int} {L : Rw} (h : Un L) : Un (clr c L) := by
  have h1 : Un (clr1 c L) := by
    unfold clr1
    split
    · exact un_low h
    · exact h
  unfold clr
  split
  · exact un_swp h1
  · exact h1
theorem un_clrN : ∀ {n : Nat} {c : Int × Int} {L : Rw}, Un L → Un (clrN n c L)
  | 0, _, _, h => h
  | n + 1, c, L, h => by
    unfold clrN
    split
    · exact h
    · exact un_clrN (un_clr h)
/-- where a step leads the column itself -/
theorem clr_col (c : Int × Int) (L : Rw) (h : (ap L c).2 ≠ 0) : ap (clr c L) c = if (ap L c).1 = 0 then ((ap L c).2, 0) else if (ap L c).2.fmod (ap L c).1 = 0 then ((ap L c).1, 0) else ((ap L c).2.fmod (ap L c).1, (ap L c).1) := by
  unfold clr
  by_cases z : (ap L c).1 = 0
  · rw [clr1_z z, if_pos h, if_pos z, ap_swp, z]
  · have e : (ap L c).2 - (ap L c).2.fdiv (ap L c).1 * (ap L c).1 = (ap L c).2.fmod (ap L c).1 := by rw [Int.fmod_def, Int.mul_comm]
    rw [clr1_n z, if_neg z, ap_low, e]
    by_cases y : (ap L c).2.fmod (ap L c).1 = 0
    · rw [if_neg (by simpa using y), if_pos y, ap_low, e, y]
    · rw [if_pos y, if_neg y, ap_swp, ap_low, e]
theorem clrN_stop {n : Nat} {c : Int × Int} {L : Rw} (h : (ap L c).2 = 0) : clrN n c L = L := by
  cases n with
  | zero => rfl
  | succ n => unfold clrN; rw [if_pos h]
theorem clr_end' : ∀ (k n : Nat) (c : Int × Int) (L : Rw), (ap L c).1 ≠ 0 → (ap L c).1.natAbs < 2 ^ k → 2 * k ≤ n → (ap (clrN n c L) c).2 = 0
  | 0, n, c, L, h0, h, hn => by simp at h; omega
  | k + 1, 0, c, L, h0, h, hn => by omega
  | k + 1, 1, c, L, h0, h, hn => by omega
  | k + 1, n + 2, c, L, h0, h, hn => by
    by_cases y : (ap L c).2 = 0
    · rw [clrN_stop y]; exact y
    · unfold clrN
      rw [if_neg y]
      have e := clr_col c L y
      rw [if_neg h0] at e
      by_cases z : (ap L c).2.fmod (ap L c).1 = 0
      · rw [if_pos z] at e
        rw [clrN_stop (by rw [e]), e]
      · rw [if_neg z] at e
        unfold clrN
        rw [if_neg (by rw [e]; exact h0)]
        have e2 := clr_col c (clr c L) (by rw [e]; exact h0)
        rw [e] at e2
        simp only at e2
        rw [if_neg z] at e2
        by_cases w : (ap L c).1.fmod ((ap L c).2.fmod (ap L c).1) = 0
        · rw [if_pos w] at e2
          rw [clrN_stop (by rw [e2]), e2]
        · rw [if_neg w] at e2
          refine clr_end' k n c _ (by rw [e2]; exact w) ?_ (by omega)
          rw [e2]
          have := fmod_half (a := (ap L c).2) h0 z
          rw [Nat.pow_succ] at h
          show ((ap L c).1.fmod ((ap L c).2.fmod (ap L c).1)).natAbs < _
          omega
theorem clr_end (k n : Nat) (c : Int × Int) (L : Rw) (h1 : (ap L c).1.natAbs < 2 ^ k) (hn : 2 * k + 1 ≤ n) : (ap (clrN n c L) c).2 = 0 := by
  by_cases x : (ap L c).1 = 0
  · by_cases y : (ap L c).2 = 0
    · rw [clrN_stop y]; exact y
    · obtain ⟨m, rfl⟩ : ∃ m, n = m + 1 := ⟨n - 1, by omega⟩
      unfold clrN
      rw [if_neg y]
      have e := clr_col c L y
      rw [if_pos x] at e
      rw [clrN_stop (by rw [e]), e]
  · exact clr_end' k n c L x h1 (by omega)
/-- a column behind all steps: its divisor over 0 -/
theorem clrN_zero {n : Nat} {c : Int × Int} {L : Rw} (h : ∀ k : Nat, True) (hc : ap L c = (0, 0)) : clrN n c L = L := clrN_stop (by rw [hc])
theorem ap_zero_iff {L : Rw} (u : Un L) (p : Int × Int) : ap L p = (0, 0) ↔ p = (0, 0) := by
  refine ⟨fun h => ?_, fun h => by rw [h]; simp [ap]⟩
  have e := congrArg (ap (rinv L)) h
  rw [← ap_rmul, rmul_rinv L u, ap_id] at e
  rw [e]; simp [ap]
/-- bounds of rows -/
def Lb (L : Rw) (N : Int) : Prop := ab L.1.1 ≤ N ∧ ab L.1.2 ≤ N ∧ ab L.2.1 ≤ N ∧ ab L.2.2 ≤ N
def Xb (L : Rw) (c : Int × Int) (X : Int) : Prop := ab ((ap L c).2 * L.1.1 - (ap L c).1 * L.2.1) ≤ X ∧ ab ((ap L c).2 * L.1.2 - (ap L c).1 * L.2.2) ≤ X
theorem clr_bound {c : Int × Int} {L : Rw} {N X : Int} (hX : 0 ≤ X) (h : Lb L N) (x : Xb L c X) : Lb (clr c L) (N + X) ∧ Xb (clr c L) c X := by
  obtain ⟨h1, h2, h3, h4⟩ := h
  obtain ⟨x1, x2⟩ := x
  have neg : ∀ a b : Int, ab (a - b) = ab (b - a) := fun a b => by unfold ab; omega
  have lowOk : (ap L c).1 ≠ 0 → Lb (low ((ap L c).2.fdiv (ap L c).1) L) (N + X) ∧ Xb (low ((ap L c).2.fdiv (ap L c).1) L) c X := fun z => by
    have k1 := cross_le z (x := L.2.1) x1 h1 hX
    have k2 := cross_le z (x := L.2.2) x2 h2 hX
    refine ⟨⟨by show ab L.1.1 ≤ _; omega, by show ab L.1.2 ≤ _; omega, k1, k2⟩, ?_, ?_⟩
    · rw [ap_low]
      show ab (((ap L c).2 - _ * (ap L c).1) * L.1.1 - (ap L c).1 * (L.2.1 - _ * L.1.1)) ≤ X
      rw [show ∀ q : Int, ((ap L c).2 - q * (ap L c).1) * L.1.1 - (ap L c).1 * (L.2.1 - q * L.1.1) = (ap L c).2 * L.1.1 - (ap L c).1 * L.2.1 from fun q => by grind]
      exact x1
    · rw [ap_low]
      show ab (((ap L c).2 - _ * (ap L c).1) * L.1.2 - (ap L c).1 * (L.2.2 - _ * L.1.2)) ≤ X
      rw [show ∀ q : Int, ((ap L c).2 - q * (ap L c).1) * L.1.2 - (ap L c).1 * (L.2.2 - q * L.1.2) = (ap L c).2 * L.1.2 - (ap L c).1 * L.2.2 from fun q => by grind]
      exact x2
  have swpOk : ∀ M : Rw, Lb M (N + X) → Xb M c X → Lb (swp M) (N + X) ∧ Xb (swp M) c X := fun M ⟨a, b, d, e⟩ ⟨f, g⟩ => by
    refine ⟨⟨d, e, a, b⟩, ?_, ?_⟩
    · rw [ap_swp]; show ab ((ap M c).1 * M.2.1 - (ap M c).2 * M.1.1) ≤ X; rw [neg]; exact f
    · rw [ap_swp]; show ab ((ap M c).1 * M.2.2 - (ap M c).2 * M.1.2) ≤ X; rw [neg]; exact g
  unfold clr
  by_cases z : (ap L c).1 = 0
  · rw [clr1_z z]
    have b : Lb L (N + X) := ⟨by omega, by omega, by omega, by omega⟩
    split
    · exact swpOk L b ⟨x1, x2⟩
    · exact ⟨b, x1, x2⟩
  · rw [clr1_n z]
    obtain ⟨a, b⟩ := lowOk z
    split
    · exact swpOk _ a b
    · exact ⟨a, b⟩
theorem clrN_bound : ∀ {n : Nat} {c : Int × Int} {L : Rw} {N X : Int}, 0 ≤ X → Lb L N → Xb L c X → Lb (clrN n c L) (N + n * X)
  | 0, c, L, N, X, _, h, _ => by
    obtain ⟨a, b, d, e⟩ := h
    refine ⟨?_, ?_, ?_, ?_⟩ <;> (unfold clrN; simp only [Int.natCast_zero, Int.zero_mul]; omega)
  | n + 1, c, L, N, X, hX, h, x => by
    have c1 : ((n + 1 : Nat) : Int) * X = n * X + X := by rw [show ((n + 1 : Nat) : Int) = (n : Int) + 1 by omega, Int.add_mul, Int.one_mul]
    have c2 : 0 ≤ (n : Int) * X := Int.mul_nonneg (by omega) hX
    unfold clrN
    split
    · obtain ⟨a, b, d, e⟩ := h
      refine ⟨?_, ?_, ?_, ?_⟩ <;> omega
    · obtain ⟨a, b⟩ := clr_bound hX h x
      obtain ⟨d, e, f, g⟩ := clrN_bound (n := n) hX a b
      refine ⟨?_, ?_, ?_, ?_⟩ <;> omega
/-! ### the form -/
mutual
def H0 : List (Int × Int) → Prop
  | [] => True
  | p :: t => p.2 = 0 ∧ (p.1 = 0 ∧ H0 t ∨ 0 < p.1 ∧ H1 t)
def H1 : List (Int × Int) → Prop
  | [] => True
  | p :: t => p.2 = 0 ∧ H1 t ∨ 0 < p.2 ∧ 0 ≤ p.1 ∧ p.1 < p.2
end
theorem h1_one : ∀ (l : List (Int × Int)) (v w : Int), (w = 1 ∨ w = -1) → H1 l → H1 (l.map (ap ((1, v), (0, w)))) → l.map (ap ((1, v), (0, w))) = l
  | [], v, w, _, _, _ => rfl
  | (x, y) :: t, v, w, hw, h, k => by
    rw [List.map_cons] at *
    unfold H1 at h k
    have e : ap ((1, v), (0, w)) (x, y) = (x + v * y, w * y) := by simp [ap]
    rw [e] at k ⊢
    simp only at h k
    rcases h with ⟨h1, h2⟩ | ⟨h1, h2, h3⟩
    · subst h1
      rcases k with ⟨_, k2⟩ | ⟨k1, _⟩
      · rw [h1_one t v w hw h2 k2]; simp
      · simp at k1
    · rcases k with ⟨k1, k2⟩ | ⟨k1, k2, k3⟩
      · rcases hw with rfl | rfl <;> omega
      · have hw1 : w = 1 := by
          rcases hw with rfl | rfl
          · rfl
          · omega
        subst hw1
        have hv : v = 0 := by
          rw [Int.one_mul] at k1 k3
          rcases Int.lt_trichotomy v 0 with z | z | z
          · have : v * y ≤ -1 * y := Int.mul_le_mul_of_nonneg_right (by omega) (by omega)
            omega
          · exact z
          · have : 1 * y ≤ v * y := Int.mul_le_mul_of_nonneg_right (by omega) (by omega)
            omega
        subst hv
        simp only [Int.zero_mul, Int.add_zero, Int.one_mul, List.cons.injEq, true_and]
        rw [List.map_congr_left (g := id) (fun p _ => by rw [ap_id]; rfl), List.map_id]
/-- one form alone -/
theorem h0_one : ∀ (l : List (Int × Int)) (V : Rw), Un V → H0 l → H0 (l.map (ap V)) → l.map (ap V) = l
  | [], V, _, _, _ => rfl
  | (x, y) :: t, V, u, h, k => by
    rw [List.map_cons] at *
    unfold H0 at h k
    simp only at h
    obtain ⟨hy, h⟩ := h
    subst hy
    have e : ap V (x, 0) = (V.1.1 * x, V.2.1 * x) := by simp [ap]
    rw [e] at k ⊢
    simp only at k
    obtain ⟨k0, k⟩ := k
    rcases h with ⟨h1, h2⟩ | ⟨h1, h2⟩
    · subst h1
      rcases k with ⟨_, k2⟩ | ⟨k1, _⟩
      · rw [h0_one t V u h2 k2]; simp
      · simp at k1
    · have v21 : V.2.1 = 0 := by
        rcases Int.mul_eq_zero.mp k0 with z | z
        · exact z
        · omega
      obtain ⟨⟨a, b⟩, ⟨c, d⟩⟩ := V
      simp only at *
      subst v21
      have hu : a * d = 1 ∨ a * d = -1 := by unfold Un det at u; simp only at u; omega
      have n1 : a.natAbs * d.natAbs = 1 := by rw [← Int.natAbs_mul]; omega
      have n2 := Nat.eq_one_of_mul_eq_one_right n1
      have n3 := Nat.eq_one_of_mul_eq_one_left n1
      have ha : a = 1 := by
        rcases k with ⟨k1, _⟩ | ⟨k1, _⟩
        · rcases Int.mul_eq_zero.mp k1 with z | z <;> omega
        · rcases (show a = 1 ∨ a = -1 by omega) with z | z
          · exact z
          · rw [z] at k1; omega
      subst ha
      rcases k with ⟨k1, _⟩ | ⟨_, k2⟩
      · omega
      · rw [h1_one t b d (by omega) h2 k2]; simp
end Mo
namespace Mo
def sg (top : Nat) (p : Int × Int) : Int := if top = 0 then p.1 else p.2
def ngT (top : Nat) (L : Rw) : Rw := if top = 0 then ng0 L else ng1 L
def fin3 (top : Nat) (c : Int × Int) (L : Rw) : Rw := if top = 1 then high ((ap L c).1.fdiv (ap L c).2) L else L
def nn (top : Nat) (c : Int × Int) (L : Rw) : Rw := if sg top (ap L c) < 0 then ngT top L else L
def lp (top : Nat) (c : Int × Int) (L : Rw) : Rw := if top = 0 then clrN 999 c L else L
def fstep (s : Nat × Rw) (c : Int × Int) : Nat × Rw :=
  if s.1 < 2 ∧ sg s.1 (ap (lp s.1 c s.2) c) ≠ 0 then (s.1 + 1, fin3 s.1 c (nn s.1 c (lp s.1 c s.2))) else (s.1, lp s.1 c s.2)
def form (cols : List (Int × Int)) : Nat × Rw := cols.foldl fstep (0, ((1, 0), (0, 1)))
theorem un_lp {t : Nat} {c : Int × Int} {L : Rw} (h : Un L) : Un (lp t c L) := by
  unfold lp
  split
  · exact un_clrN h
  · exact h
theorem un_nn {t : Nat} {c : Int × Int} {L : Rw} (h : Un L) : Un (nn t c L) := by
  unfold nn ngT
  split
  · split
    · exact un_ng0 h
    · exact un_ng1 h
  · exact h
theorem un_fin3 {t : Nat} {c : Int × Int} {L : Rw} (h : Un L) : Un (fin3 t c L) := by
  unfold fin3
  split
  · exact un_high h
  · exact h
theorem un_fstep {s : Nat × Rw} {c : Int × Int} (h : Un s.2) : Un (fstep s c).2 := by
  unfold fstep
  split
  · exact un_fin3 (un_nn (un_lp h))
  · exact un_lp h
theorem un_foldl (cols : List (Int × Int)) : ∀ s : Nat × Rw, Un s.2 → Un (cols.foldl fstep s).2 := by
  induction cols with
  | nil => exact fun s h => h
  | cons c t ih => exact fun s h => ih _ (un_fstep h)
theorem un_form (cols : List (Int × Int)) : Un (form cols).2 := un_foldl cols _ (.inl rfl)
theorem fstep2 (L : Rw) (c : Int × Int) : fstep (2, L) c = (2, L) := by
  unfold fstep lp
  simp
theorem fold2 (L : Rw) : ∀ cols : List (Int × Int), cols.foldl fstep (2, L) = (2, L)
  | [] => rfl
  | c :: t => by rw [List.foldl_cons, fstep2]; exact fold2 L t
/-- one step from one row -/
theorem fstep1 (L : Rw) (c : Int × Int) : fstep (1, L) c = if (ap L c).2 = 0 then (1, L) else (2, fin3 1 c (nn 1 c L)) := by
  unfold fstep lp sg
  by_cases h : (ap L c).2 = 0
  · simp [h]
  · simp [h]
theorem fold1 : ∀ (cols : List (Int × Int)) (L : Rw), ∃ v w : Int, (w = 1 ∨ w = -1) ∧ (cols.foldl fstep (1, L)).2 = rmul L ((1, v), (0, w)) ∧ H1 (cols.map (ap (cols.foldl fstep (1, L)).2))
  | [], L => ⟨0, 1, .inl rfl, (rmul_id L).symm, trivial⟩
  | c :: t, L => by
    rw [List.foldl_cons, fstep1]
    by_cases h : (ap L c).2 = 0
    · rw [if_pos h]
      obtain ⟨v, w, h1, h2, h3⟩ := fold1 t L
      refine ⟨v, w, h1, h2, ?_⟩
      rw [List.map_cons]
      unfold H1
      refine .inl ⟨?_, h3⟩
      rw [h2, ap_rmul]
      show 0 * _ + w * (ap L c).2 = 0
      rw [h]; omega
    · rw [if_neg h, fold2]
      have key : ∀ w : Int, (w = 1 ∨ w = -1) → ∀ M : Rw, M = rmul L ((1, 0), (0, w)) → 0 < (ap M c).2 → ∃ v w : Int, (w = 1 ∨ w = -1) ∧ fin3 1 c M = rmul L ((1, v), (0, w)) ∧ H1 ((c :: t).map (ap (fin3 1 c M))) := by
        intro w hw M hM hp
        refine ⟨-((ap M c).1.fdiv (ap M c).2) * w, w, hw, ?_, ?_⟩
        · unfold fin3
          rw [if_pos rfl]
          generalize (ap M c).1.fdiv (ap M c).2 = q
          rw [hM]
          obtain ⟨⟨a, b⟩, ⟨d, e⟩⟩ := L
          refine Prod.ext (Prod.ext ?_ ?_) (Prod.ext ?_ ?_) <;> simp only [rmul, high] <;> grind
        · rw [List.map_cons]
          unfold H1 fin3
          rw [if_pos rfl, ap_high]
          have e : (ap M c).1 - (ap M c).1.fdiv (ap M c).2 * (ap M c).2 = (ap M c).1.fmod (ap M c).2 := by rw [Int.fmod_def, Int.mul_comm]
          rw [e]
          exact .inr ⟨hp, Int.fmod_nonneg_of_pos _ hp, Int.fmod_lt_of_pos _ hp⟩
      unfold nn sg ngT
      simp only [show (1 : Nat) ≠ 0 by decide, if_false]
      by_cases z : (ap L c).2 < 0
      · rw [if_pos z]
        refine key (-1) (.inr rfl) _ ?_ ?_
        · obtain ⟨⟨a, b⟩, ⟨d, e⟩⟩ := L
          refine Prod.ext (Prod.ext ?_ ?_) (Prod.ext ?_ ?_) <;> simp only [rmul, ng1] <;> grind
        · rw [ap_ng1]; show 0 < -(ap L c).2; omega
      · rw [if_neg z]
        exact key 1 (.inl rfl) _ (rmul_id L).symm (by omega)
theorem fold0 : ∀ (cols : List (Int × Int)), (∀ c ∈ cols, c.1.natAbs < 2 ^ 450) → H0 (cols.map (ap (form cols).2)) ∧ ((form cols).1 = 0 → (form cols).2 = ((1, 0), (0, 1)))
  | [], _ => ⟨trivial, fun _ => rfl⟩
  | c :: t, hb => by
    have e0 : form (c :: t) = t.foldl fstep (fstep (0, ((1, 0), (0, 1))) c) := rfl
    by_cases hz : c = (0, 0)
    · have e1 : fstep (0, ((1, 0), (0, 1))) c = (0, ((1, 0), (0, 1))) := by
        subst hz
        unfold fstep lp sg
        have : clrN 999 (0, 0) ((1, 0), (0, 1)) = ((1, 0), (0, 1)) := clrN_stop (by simp [ap])
        simp [this, ap]
      obtain ⟨h1, h2⟩ := fold0 t (fun x hx => hb x (List.mem_cons_of_mem _ hx))
      have e2 : form (c :: t) = form t := by rw [e0, e1]; rfl
      rw [e2]
      refine ⟨?_, h2⟩
      rw [List.map_cons]
      unfold H0
      subst hz
      refine ⟨by simp [ap], .inl ⟨by simp [ap], h1⟩⟩
    · have hend : (ap (clrN 999 c ((1, 0), (0, 1))) c).2 = 0 := clr_end 450 999 c _ (by rw [ap_id]; exact hb c List.mem_cons_self) (by decide)
      have hu : Un (clrN 999 c ((1, 0), (0, 1))) := un_clrN (.inl rfl)
      generalize hM : clrN 999 c ((1, 0), (0, 1)) = M at hend hu
      have hx : (ap M c).1 ≠ 0 := fun z => hz ((ap_zero_iff hu c).mp (Prod.ext z hend))
      have e1 : fstep (0, ((1, 0), (0, 1))) c = (1, nn 0 c M) := by
        unfold fstep lp sg fin3
        simp [hM, hx]
      have hp : 0 < (ap (nn 0 c M) c).1 ∧ (ap (nn 0 c M) c).2 = 0 := by
        unfold nn sg ngT
        by_cases z : (ap M c).1 < 0
        · simp only [if_true, if_pos z, ap_ng0]
          exact ⟨by omega, hend⟩
        · simp only [if_true, if_neg z]
          exact ⟨by omega, hend⟩
      rw [e0, e1]
      obtain ⟨v, w, h1, h2, h3⟩ := fold1 t (nn 0 c M)
      refine ⟨?_, fun z => ?_⟩
      · rw [List.map_cons]
        unfold H0
        have e3 : ap (t.foldl fstep (1, nn 0 c M)).2 c = ((ap (nn 0 c M) c).1, 0) := by
          rw [h2, ap_rmul]
          obtain ⟨p1, p2⟩ := hp
          show (1 * (ap (nn 0 c M) c).1 + v * (ap (nn 0 c M) c).2, 0 * (ap (nn 0 c M) c).1 + w * (ap (nn 0 c M) c).2) = _
          rw [p2]; simp
        rw [e3]
        exact ⟨rfl, .inr ⟨hp.1, h3⟩⟩
      · exfalso
        have ge : ∀ (l : List (Int × Int)) (s : Nat × Rw), s.1 ≤ (l.foldl fstep s).1 := by
          intro l
          induction l with
          | nil => exact fun s => Nat.le_refl _
          | cons c l ih =>
            intro s
            refine Nat.le_trans ?_ (ih _)
            unfold fstep
            split
            · exact Nat.le_succ _
            · exact Nat.le_refl _
        have := ge t (1, nn 0 c M)
        omega
/-- two rows of columns have one form EXACTLY IF rows lead the one to the other -/
theorem form_same {a b : List (Int × Int)} (ha : ∀ c ∈ a, c.1.natAbs < 2 ^ 450) (hb : ∀ c ∈ b, c.1.natAbs < 2 ^ 450) : a.map (ap (form a).2) = b.map (ap (form b).2) ↔ ∃ V, Un V ∧ a.map (ap V) = b := by
  have inv_map : ∀ (L : Rw), Un L → ∀ l : List (Int × Int), (l.map (ap L)).map (ap (rinv L)) = l := fun L u l => by
    rw [List.map_map]
    have : (ap (rinv L) ∘ ap L) = id := by
      funext p
      show ap (rinv L) (ap L p) = p
      rw [← ap_rmul, rmul_rinv L u, ap_id]
    rw [this, List.map_id]
  have inv_map2 : ∀ (L : Rw), Un L → ∀ l : List (Int × Int), (l.map (ap (rinv L))).map (ap L) = l := fun L u l => by
    rw [List.map_map]
    have : (ap L ∘ ap (rinv L)) = id := by
      funext p
      show ap L (ap (rinv L) p) = p
      rw [← ap_rmul, rinv_rmul L u, ap_id]
    rw [this, List.map_id]
  have comp : ∀ (K L : Rw) (l : List (Int × Int)), (l.map (ap K)).map (ap L) = l.map (ap (rmul K L)) := fun K L l => by
    rw [List.map_map]
    congr 1
    funext p
    exact (ap_rmul K L p).symm
  constructor
  · intro h
    refine ⟨rmul (form a).2 (rinv (form b).2), (un_form a).mul (un_rinv (un_form b)), ?_⟩
    rw [← comp, h, inv_map _ (un_form b)]
  · rintro ⟨V, hV, rfl⟩
    have h1 := (fold0 a ha).1
    have h2 := (fold0 _ hb).1
    have e : (a.map (ap V)).map (ap (form (a.map (ap V))).2) = (a.map (ap (form a).2)).map (ap (rmul (rinv (form a).2) (rmul V (form (a.map (ap V))).2))) := by
      rw [← comp, inv_map _ (un_form a), comp]
    rw [e] at h2 ⊢
    exact (h0_one _ _ ((un_rinv (un_form a)).mul (hV.mul (un_form _))) h1 h2).symm
end Mo
/-! How great a form's rows are; rows of two columns that stand apart are one alone -/
namespace Mo
def CLe (cols : List (Int × Int)) (P : Int) : Prop := ∀ p ∈ cols, ab p.1 ≤ P ∧ ab p.2 ≤ P
def cross (a b : Int × Int) : Int := a.1 * b.2 - a.2 * b.1
theorem cross_ap (L : Rw) (a b : Int × Int) : cross (ap L a) (ap L b) = det L * cross a b := by
  unfold cross ap det; simp only; grind
theorem ap_le {L : Rw} {p : Int × Int} {N P : Int} (h : Lb L N) (h1 : ab p.1 ≤ P) (h2 : ab p.2 ≤ P) : ab (ap L p).1 ≤ 2 * (N * P) ∧ ab (ap L p).2 ≤ 2 * (N * P) := by
  obtain ⟨a, b, c, d⟩ := h
  have hN : 0 ≤ N := Int.le_trans (ab_nn _) a
  have key : ∀ x y : Int, ab x ≤ N → ab y ≤ P → ab (x * y) ≤ N * P := fun x y hx hy => by
    rw [ab_mul]
    exact Int.mul_le_mul hx hy (ab_nn _) hN
  constructor
  · have := ab_add (L.1.1 * p.1) (L.1.2 * p.2)
    have := key _ _ a h1
    have := key _ _ b h2
    show ab (L.1.1 * p.1 + L.1.2 * p.2) ≤ _
    omega
  · have := ab_add (L.2.1 * p.1) (L.2.2 * p.2)
    have := key _ _ c h1
    have := key _ _ d h2
    show ab (L.2.1 * p.1 + L.2.2 * p.2) ≤ _
    omega
theorem Lb.up {L : Rw} {N M : Int} (h : Lb L N) (hm : N ≤ M) : Lb L M := ⟨Int.le_trans h.1 hm, Int.le_trans h.2.1 hm, Int.le_trans h.2.2.1 hm, Int.le_trans h.2.2.2 hm⟩
theorem lb_nn {t : Nat} {c : Int × Int} {L : Rw} {N : Int} (h : Lb L N) : Lb (nn t c L) N := by
  obtain ⟨a, b, d, e⟩ := h
  unfold nn ngT
  split
  · split
    · exact ⟨by show ab (-L.1.1) ≤ N; rw [ab_neg]; exact a, by show ab (-L.1.2) ≤ N; rw [ab_neg]; exact b, d, e⟩
    · exact ⟨a, b, by show ab (-L.2.1) ≤ N; rw [ab_neg]; exact d, by show ab (-L.2.2) ≤ N; rw [ab_neg]; exact e⟩
  · exact ⟨a, b, d, e⟩
theorem lb_high {q : Int} {L : Rw} {N Q : Int} (h : Lb L N) (hq : ab q ≤ Q) : Lb (high q L) (N + Q * N) := by
  obtain ⟨a, b, c, d⟩ := h
  have hN : 0 ≤ N := Int.le_trans (ab_nn _) a
  have hQ : 0 ≤ Q := Int.le_trans (ab_nn _) hq
  have hp : 0 ≤ Q * N := Int.mul_nonneg hQ hN
  have key : ∀ x y : Int, ab x ≤ N → ab y ≤ N → ab (x - q * y) ≤ N + Q * N := fun x y hx hy => by
    have h1 := ab_add x (-(q * y))
    rw [ab_neg, ab_mul] at h1
    have h2 : ab q * ab y ≤ Q * N := Int.mul_le_mul hq hy (ab_nn _) hQ
    rw [Int.sub_eq_add_neg]
    omega
  exact ⟨key _ _ a c, key _ _ b d, by show ab L.2.1 ≤ _; omega, by show ab L.2.2 ≤ _; omega⟩
def FInv (s : Nat × Rw) (pre : List (Int × Int)) : Prop :=
  s.1 ≤ 2 ∧ Un s.2 ∧ (s.1 = 0 → s.2 = ((1, 0), (0, 1))) ∧ (s.1 = 1 → Lb s.2 (10 ^ 66) ∧ ∃ c ∈ pre, (ap s.2 c).1 ≠ 0 ∧ (ap s.2 c).2 = 0) ∧ (s.1 = 2 → Lb s.2 (10 ^ 196) ∧ ∃ c ∈ pre, ∃ d ∈ pre, cross c d ≠ 0)
theorem un_ne {L : Rw} (u : Un L) : det L ≠ 0 := by unfold Un at u; omega
theorem finv_step {s : Nat × Rw} {pre : List (Int × Int)} {c : Int × Int} (h : FInv s pre) (h1 : ab c.1 ≤ 10 ^ 62) (h2 : ab c.2 ≤ 10 ^ 62) : FInv (fstep s c) (pre ++ [c]) := by
  obtain ⟨t, L⟩ := s
  obtain ⟨a, u, b, d, e⟩ := h
  simp only at a u b d e
  have hu2 : Un (fstep (t, L) c).2 := un_fstep u
  rcases (show t = 0 ∨ t = 1 ∨ t = 2 by omega) with rfl | rfl | rfl
  · have hL := b rfl
    subst hL
    have hend : (ap (clrN 999 c ((1, 0), (0, 1))) c).2 = 0 := clr_end 450 999 c _ (by
      rw [ap_id]
      exact Nat.lt_of_le_of_lt (show c.1.natAbs ≤ 10 ^ 62 by unfold ab at h1; omega) (by decide +kernel)) (by decide)
    have hLb : Lb ((1, 0), (0, 1)) 1 := by refine ⟨?_, ?_, ?_, ?_⟩ <;> decide
    have hX : Xb ((1, 0), (0, 1)) c (10 ^ 62) := by
      refine ⟨?_, ?_⟩
      · rw [ap_id]; show ab (c.2 * 1 - c.1 * 0) ≤ _
        rw [Int.mul_one, Int.mul_zero, Int.sub_zero]; exact h2
      · rw [ap_id]; show ab (c.2 * 0 - c.1 * 1) ≤ _
        rw [Int.mul_one, Int.mul_zero, Int.zero_sub, ab_neg]; exact h1
    have hb := clrN_bound (n := 999) (c := c) (by decide) hLb hX
    have hun : Un (clrN 999 c ((1, 0), (0, 1))) := un_clrN (.inl rfl)
    have hf : fstep (0, ((1, 0), (0, 1))) c = if sg 0 (ap (clrN 999 c ((1, 0), (0, 1))) c) ≠ 0 then (1, nn 0 c (clrN 999 c ((1, 0), (0, 1)))) else (0, clrN 999 c ((1, 0), (0, 1))) := by
      unfold fstep lp fin3
      simp
    have hzero : sg 0 (ap (clrN 999 c ((1, 0), (0, 1))) c) = 0 → clrN 999 c ((1, 0), (0, 1)) = ((1, 0), (0, 1)) := fun z => by
      have : c = (0, 0) := (ap_zero_iff hun c).mp (Prod.ext z hend)
      exact clrN_stop (by rw [this, ap_id])
    rw [hf] at hu2 ⊢
    generalize clrN 999 c ((1, 0), (0, 1)) = M at *
    by_cases z : sg 0 (ap M c) = 0
    · rw [if_neg (by simpa using z)] at hu2 ⊢
      exact ⟨Nat.zero_le _, hu2, fun _ => hzero z, fun q => (by simp only at q; omega), fun q => (by simp only at q; omega)⟩
    · rw [if_pos (by simpa using z)] at hu2 ⊢
      refine ⟨Nat.le_succ 1, hu2, fun q => (by simp only at q; omega), fun _ => ⟨lb_nn (Lb.up hb (by decide +kernel)), c, by simp, ?_⟩, fun q => (by simp only at q; omega)⟩
      have z' : (ap M c).1 ≠ 0 := z
      unfold nn sg ngT
      by_cases w : (ap M c).1 < 0
      · simp only [if_true, if_pos w, ap_ng0]
        exact ⟨by omega, hend⟩
      · simp only [if_true, if_neg w]
        exact ⟨by omega, hend⟩
  · obtain ⟨hL, c0, hc0, hx, hy⟩ := d rfl
    rw [fstep1] at hu2 ⊢
    by_cases z : (ap L c).2 = 0
    · rw [if_pos z] at hu2 ⊢
      exact ⟨Nat.le_succ 1, hu2, fun q => (by simp only at q; omega), fun _ => ⟨hL, c0, List.mem_append_left _ hc0, hx, hy⟩, fun q => (by simp only at q; omega)⟩
    · rw [if_neg z] at hu2 ⊢
      refine ⟨Nat.le_refl 2, hu2, fun q => (by simp only at q; omega), fun q => (by simp only at q; omega), fun _ => ⟨?_, c0, List.mem_append_left _ hc0, c, by simp, ?_⟩⟩
      · have hn := lb_nn (t := 1) (c := c) hL
        have hnz : (ap (nn 1 c L) c).2 ≠ 0 := by
          unfold nn ngT
          split
          · rw [if_neg (by decide), ap_ng1]
            show -(ap L c).2 ≠ 0
            omega
          · exact z
        have h3 := (ap_le hn h1 h2).1
        have h4 := fdiv_ab (ap (nn 1 c L) c).1 (ap (nn 1 c L) c).2 hnz
        have h5 : Lb (fin3 1 c (nn 1 c L)) (10 ^ 66 + 2 * (10 ^ 66 * 10 ^ 62) * 10 ^ 66) := by
          unfold fin3
          rw [if_pos rfl]
          exact lb_high hn (by omega)
        exact Lb.up h5 (by decide +kernel)
      · intro q
        have h6 := cross_ap L c0 c
        rw [q, Int.mul_zero] at h6
        unfold cross at h6
        rw [hy, Int.zero_mul, Int.sub_zero] at h6
        rcases Int.mul_eq_zero.mp h6 with w | w
        · exact hx w
        · exact z w
  · obtain ⟨hL, c0, hc0, d0, hd0, hx⟩ := e rfl
    rw [fstep2] at hu2 ⊢
    exact ⟨Nat.le_refl 2, hu2, fun q => (by simp only at q; omega), fun q => (by simp only at q; omega), fun _ => ⟨hL, c0, List.mem_append_left _ hc0, d0, List.mem_append_left _ hd0, hx⟩⟩
theorem finv_fold {cols : List (Int × Int)} (hP : CLe cols (10 ^ 62)) : ∀ (rest pre : List (Int × Int)) (s : Nat × Rw), cols = pre ++ rest → FInv s pre → FInv (rest.foldl fstep s) cols
  | [], pre, s, e, h => by rw [e, List.append_nil]; exact h
  | c :: rest, pre, s, e, h => by
    have hc := hP c (by rw [e]; simp)
    exact finv_fold hP rest (pre ++ [c]) (fstep s c) (by rw [e]; simp) (finv_step h hc.1 hc.2)
theorem finv_form {cols : List (Int × Int)} (hP : CLe cols (10 ^ 62)) : FInv (form cols) cols :=
  finv_fold hP cols [] (0, ((1, 0), (0, 1))) rfl ⟨Nat.zero_le _, .inl rfl, fun _ => rfl, fun q => (by simp only at q; omega), fun q => (by simp only at q; omega)⟩
theorem form_lb {cols : List (Int × Int)} (hP : CLe cols (10 ^ 62)) : Lb (form cols).2 (10 ^ 196) := by
  obtain ⟨a, u, b, d, e⟩ := finv_form hP
  rcases (show (form cols).1 = 0 ∨ (form cols).1 = 1 ∨ (form cols).1 = 2 by omega) with h | h | h
  · rw [b h]; refine ⟨?_, ?_, ?_, ?_⟩ <;> decide +kernel
  · exact Lb.up (d h).1 (by decide +kernel)
  · exact (e h).1
theorem form_lb1 {cols : List (Int × Int)} (hP : CLe cols (10 ^ 62)) (h2 : (form cols).1 ≠ 2) : Lb (form cols).2 (10 ^ 66) := by
  obtain ⟨a, u, b, d, e⟩ := finv_form hP
  rcases (show (form cols).1 = 0 ∨ (form cols).1 = 1 by clear u b d e; omega) with h | h
  · rw [b h]; refine ⟨?_, ?_, ?_, ?_⟩ <;> decide +kernel
  · exact (d h).1
/-- rows by what they make of two columns -/
theorem rank2 {V : Rw} {c d : Int × Int} {P Q : Int} (hx : cross c d ≠ 0) (hc : ab c.1 ≤ P ∧ ab c.2 ≤ P) (hd : ab d.1 ≤ P ∧ ab d.2 ≤ P) (hc2 : ab (ap V c).1 ≤ Q ∧ ab (ap V c).2 ≤ Q) (hd2 : ab (ap V d).1 ≤ Q ∧ ab (ap V d).2 ≤ Q) : Lb V (2 * (Q * P)) := by
  have hQ : 0 ≤ Q := Int.le_trans (ab_nn _) hc2.1
  have h1 : 1 ≤ ab (cross c d) := by unfold ab; omega
  have key : ∀ v x1 x2 y1 y2 : Int, cross c d * v = x1 * y1 - x2 * y2 → ab x1 ≤ Q → ab x2 ≤ Q → ab y1 ≤ P → ab y2 ≤ P → ab v ≤ 2 * (Q * P) := fun v x1 x2 y1 y2 e a1 a2 b1 b2 => by
    have h2 : ab (cross c d) * ab v = ab (x1 * y1 - x2 * y2) := by rw [← ab_mul, e]
    have h3 := ab_add (x1 * y1) (-(x2 * y2))
    rw [ab_neg, ab_mul, ab_mul] at h3
    rw [Int.sub_eq_add_neg] at h2
    have h4 : ab x1 * ab y1 ≤ Q * P := Int.mul_le_mul a1 b1 (ab_nn _) hQ
    have h5 : ab x2 * ab y2 ≤ Q * P := Int.mul_le_mul a2 b2 (ab_nn _) hQ
    have h6 : 1 * ab v ≤ ab (cross c d) * ab v := Int.mul_le_mul_of_nonneg_right h1 (ab_nn _)
    omega
  refine ⟨key _ (ap V c).1 (ap V d).1 d.2 c.2 ?_ hc2.1 hd2.1 hd.2 hc.2, key _ (ap V d).1 (ap V c).1 c.1 d.1 ?_ hd2.1 hc2.1 hc.1 hd.1, key _ (ap V c).2 (ap V d).2 d.2 c.2 ?_ hc2.2 hd2.2 hd.2 hc.2, key _ (ap V d).2 (ap V c).2 c.1 d.1 ?_ hd2.2 hc2.2 hc.1 hd.1⟩ <;> (unfold cross ap; simp only; grind)
theorem rank2_eq {V W : Rw} {c d : Int × Int} (hx : cross c d ≠ 0) (hc : ap V c = ap W c) (hd : ap V d = ap W d) : V = W := by
  obtain ⟨⟨a1, a2⟩, ⟨a3, a4⟩⟩ := V
  obtain ⟨⟨b1, b2⟩, ⟨b3, b4⟩⟩ := W
  obtain ⟨c1, c2⟩ := c
  obtain ⟨d1, d2⟩ := d
  simp only [ap, cross, Prod.mk.injEq] at *
  obtain ⟨e1, e2⟩ := hc
  obtain ⟨e3, e4⟩ := hd
  have k : ∀ x y : Int, (c1 * d2 - c2 * d1) * x = (c1 * d2 - c2 * d1) * y → x = y := fun x y h => Int.eq_of_mul_eq_mul_left hx h
  refine ⟨⟨k _ _ ?_, k _ _ ?_⟩, ⟨k _ _ ?_, k _ _ ?_⟩⟩ <;> grind
/-- the rows by which two rows of columns of one form are led -/
theorem lead_lb {a b : List (Int × Int)} (ha : CLe a (10 ^ 62)) (hb : CLe b (10 ^ 62)) (V : Rw) (hV : a.map (ap V) = b) (hVd : V = rmul (form a).2 (rinv (form b).2)) : Lb V (10 ^ 140) := by
  have two : ((form a).1 = 2 ∨ (form b).1 = 2) → ∃ c ∈ a, ∃ d ∈ a, cross c d ≠ 0 := fun h => by
    rcases h with h2 | h2
    · obtain ⟨_, _, _, _, e⟩ := finv_form ha
      exact (e h2).2
    · obtain ⟨_, _, _, _, e⟩ := finv_form hb
      obtain ⟨_, c, hc, d, hd, hx⟩ := e h2
      rw [← hV] at hc hd
      obtain ⟨c', hc', rfl⟩ := List.mem_map.mp hc
      obtain ⟨d', hd', rfl⟩ := List.mem_map.mp hd
      refine ⟨c', hc', d', hd', fun z => hx ?_⟩
      rw [cross_ap, z, Int.mul_zero]
  by_cases h2 : (form a).1 = 2 ∨ (form b).1 = 2
  · obtain ⟨c, hc, d, hd, hx⟩ := two h2
    have m : ∀ p ∈ a, ab (ap V p).1 ≤ 10 ^ 62 ∧ ab (ap V p).2 ≤ 10 ^ 62 := fun p hp => hb _ (by rw [← hV]; exact List.mem_map_of_mem hp)
    exact Lb.up (rank2 hx (ha c hc) (ha d hd) (m c hc) (m d hd)) (by decide +kernel)
  · have l1 := form_lb1 ha (fun z => h2 (.inl z))
    have l2 := form_lb1 hb (fun z => h2 (.inr z))
    have u2 := un_form b
    have l3 : Lb (rinv (form b).2) (10 ^ 66) := by
      obtain ⟨a, b, c, d⟩ := l2
      unfold rinv
      rcases u2 with e | e <;> rw [e]
      · refine ⟨?_, ?_, ?_, ?_⟩
        · show ab (1 * _) ≤ _; rw [Int.one_mul]; exact d
        · show ab (-1 * _) ≤ _; rw [Int.neg_mul, Int.one_mul, ab_neg]; exact b
        · show ab (-1 * _) ≤ _; rw [Int.neg_mul, Int.one_mul, ab_neg]; exact c
        · show ab (1 * _) ≤ _; rw [Int.one_mul]; exact a
      · refine ⟨?_, ?_, ?_, ?_⟩
        · show ab (-1 * _) ≤ _; rw [Int.neg_mul, Int.one_mul, ab_neg]; exact d
        · show ab (- -1 * _) ≤ _; rw [Int.neg_neg, Int.one_mul]; exact b
        · show ab (- -1 * _) ≤ _; rw [Int.neg_neg, Int.one_mul]; exact c
        · show ab (-1 * _) ≤ _; rw [Int.neg_mul, Int.one_mul, ab_neg]; exact a
    obtain ⟨a1, a2, a3, a4⟩ := l1
    obtain ⟨b1, b2, b3, b4⟩ := l3
    have key : ∀ x y z w : Int, ab x ≤ 10 ^ 66 → ab y ≤ 10 ^ 66 → ab z ≤ 10 ^ 66 → ab w ≤ 10 ^ 66 → ab (x * y + z * w) ≤ 10 ^ 140 := fun x y z w h1 h2 h3 h4 => by
      have h := ab_add (x * y) (z * w)
      rw [ab_mul, ab_mul] at h
      have := Int.mul_le_mul h1 h2 (ab_nn _) (by decide : (0 : Int) ≤ 10 ^ 66)
      have := Int.mul_le_mul h3 h4 (ab_nn _) (by decide : (0 : Int) ≤ 10 ^ 66)
      omega
    rw [hVd]
    exact ⟨key _ _ _ _ b1 a1 b2 a3, key _ _ _ _ b1 a2 b2 a4, key _ _ _ _ b3 a1 b4 a3, key _ _ _ _ b3 a2 b4 a4⟩
end Mo
/-! What the mirrors of the whole moves come to -/
namespace Abs
open PySem Mo
def DiceOk (d : Dice) : Prop := 0 ≤ d.2 ∧ d.2 < 18446744073709551616
theorem roll_ok (d : Dice) (t : Int) (hd : DiceOk d) (ht : 0 < t) (ht2 : t ≤ BB) : ∃ p, m__law_roll d t = some p ∧ 0 ≤ p.1 ∧ p.1 < t ∧ DiceOk p.2 := by
  unfold m__law_roll
  by_cases c : 0 < d.1
  · rw [if_pos (by simpa using c), modO_ok ht, Option.bind_some, divO_ok ht ht2, Option.bind_some]
    exact ⟨_, rfl, Int.emod_nonneg _ (by omega), Int.emod_lt_of_pos _ ht, hd⟩
  · obtain ⟨h1, h2⟩ := hd
    rw [if_neg (by simpa using c), mulO_ok (by unfold BB; omega) (by unfold BB; omega) (by decide +kernel) (by decide +kernel), Option.bind_some, modO_ok (by decide), Option.bind_some, divO_ok (by decide) (by decide +kernel), Option.bind_some, modO_ok ht, Option.bind_some]
    exact ⟨_, rfl, Int.emod_nonneg _ (by omega), Int.emod_lt_of_pos _ ht, Int.emod_nonneg _ (by decide), Int.emod_lt_of_pos _ (by decide)⟩
theorem one_of_ok {α : Type} (d : Dice) (l : List α) (hd : DiceOk d) (h : 0 < l.length) (h2 : l.length ≤ 1000) : ∃ p, m__law_one_of d l = some p ∧ p.1 ∈ l ∧ DiceOk p.2 := by
  unfold m__law_one_of
  obtain ⟨p, e, q1, q2, q3⟩ := roll_ok d (l.length : Int) hd (by omega) (by unfold BB; omega)
  obtain ⟨x, e2, hx⟩ := ixO_nat l p.1 q1 q2
  rw [e, Option.bind_some, e2, Option.bind_some]
  exact ⟨_, rfl, hx, q3⟩
theorem dice_ok (ns : List Int) (x : Int) (h0 : 0 ≤ x) (h1 : x ≤ 10) : ∃ d, m__law_dice ns x = some d ∧ DiceOk d := by
  unfold m__law_dice
  have hc : ∃ c, (if (decide (x < (ns.length : Int))) = true then ((ixO ns x).bind fun t1 => some t1) else ((mulO 131 x).bind fun t2 => some (t2 + 71))) = some c := by
    by_cases c : x < (ns.length : Int)
    · rw [if_pos (by simpa using c)]
      obtain ⟨y, e, _⟩ := ixO_nat ns x h0 c
      rw [e]
      exact ⟨_, rfl⟩
    · rw [if_neg (by simpa using c), mulO_ok (by decide +kernel) (by decide +kernel) (by unfold BB; omega) (by unfold BB; omega)]
      exact ⟨_, rfl⟩
  obtain ⟨c, hc⟩ := hc
  rw [hc, Option.bind_some, modO_ok (by decide), Option.bind_some, modO_ok (by decide), Option.bind_some, mulO_ok (by decide +kernel) (by decide +kernel) (by unfold BB; omega) (by unfold BB; omega), Option.bind_some]
  have h31 : ∃ y, mulO 31 (if (decide (c < 0)) = true then (1 : Int) else 0) = some y := by
    split <;> exact ⟨_, mulO_ok (by decide +kernel) (by decide +kernel) (by decide +kernel) (by decide +kernel)⟩
  obtain ⟨y, hy⟩ := h31
  rw [hy, Option.bind_some, modO_ok (by decide), Option.bind_some]
  exact ⟨_, rfl, Int.emod_nonneg _ (by decide), Int.emod_lt_of_pos _ (by decide)⟩
/-! ### whole moves -/
abbrev eM : Mv → D := e_t2t2t2iit2iit2ii
theorem within_ok {i lo hi : Int} : m_is_within (.int i) lo hi = some (decide (lo ≤ i) && decide (i ≤ hi)) := by
  unfold m_is_within
  simp [isi, intD]
theorem integer_ok {i : Int} (h : ab i ≤ G) : m_is_integer (.int i) = some true := by
  unfold m_is_integer
  rw [within_ok, Option.bind_some]
  unfold ab G at h
  simp
  omega
theorem two_ok {x y : Int} (hx : ab x ≤ G) (hy : ab y ≤ G) : m_are_two (.tuple [.int x, .int y]) = some true := by
  unfold m_are_two
  have e : mapO (fun (x4 : D) => (m_is_integer x4).bind fun t7 => some t7) [.int x, .int y] = some [true, true] := by
    unfold mapO mapO mapO
    rw [integer_ok hx, integer_ok hy]; rfl
  rw [iteT (by rfl), show tupD (.tuple [.int x, .int y]) = some [.int x, .int y] from rfl, Option.bind_some, iteT (by rfl), Option.bind_some, szO_ok (by exact Nat.le_of_ble_eq_true rfl), Option.bind_some, e]
  rfl
theorem good_bb {m : Mv} (h : Good m) : Le m (10 ^ 100) := by
  obtain ⟨_, a, b, c, d, e, f⟩ := h
  unfold G at *
  refine ⟨?_, ?_, ?_, ?_, ?_, ?_⟩ <;> omega
theorem mul_ab {i j : Int} (h1 : ab i ≤ 10 ^ 200) (h2 : ab j ≤ 10 ^ 200) : mulO i j = some (i * j) :=
  mulO_ok (by unfold BB ab at *; omega) (by unfold BB ab at *; omega) (by unfold BB ab at *; omega) (by unfold BB ab at *; omega)
theorem whole_ok {m : Mv} (h : Good m) : m_is_whole_move_of (eM m) = some true := by
  obtain ⟨⟨⟨a, b⟩, ⟨c, d⟩⟩, ⟨x, y⟩⟩ := m
  obtain ⟨u, h1, h2, h3, h4, h5, h6⟩ := h
  simp only at h1 h2 h3 h4 h5 h6
  have g : (G : Int) ≤ 10 ^ 200 := by decide +kernel
  unfold m_is_whole_move_of
  have e0 : tupD (eM (((a, b), (c, d)), (x, y))) = some [.tuple [.tuple [.int a, .int b], .tuple [.int c, .int d]], .tuple [.int x, .int y]] := rfl
  have e1 : tupD (.tuple [.tuple [.int a, .int b], .tuple [.int c, .int d]]) = some [.tuple [.int a, .int b], .tuple [.int c, .int d]] := rfl
  have e2 : mapO (fun (x15 : D) => (m_are_two x15).bind fun t18 => some t18) [.tuple [.int a, .int b], .tuple [.int c, .int d]] = some [true, true] := by
    unfold mapO mapO mapO
    rw [two_ok h1 h2, two_ok h3 h4]; rfl
  rw [iteF (by rfl), e0, Option.bind_some, iteF (by rfl), Option.bind_some, ixO_1, Option.bind_some, two_ok h5 h6, Option.bind_some, Option.bind_some, Option.bind_some, if_neg (by decide), Option.bind_some, ixO_0, Option.bind_some,
    iteF (by rfl), e1, Option.bind_some, iteF (by rfl), Option.bind_some, szO_ok (by exact Nat.le_of_ble_eq_true rfl), Option.bind_some, e2, Option.bind_some, Option.bind_some, Option.bind_some, if_neg (by decide), Option.bind_some, ixO_0, Option.bind_some]
  simp only [Option.bind_some, ixO_0, ixO_1, intD, tupD]
  rw [mul_ab (by omega) (by omega), Option.bind_some, mul_ab (by omega) (by omega), Option.bind_some]
  unfold Un det at u
  simp only at u
  congr 1
  rcases u with e | e <;> rw [e] <;> rfl
theorem require1 {m : Mv} (h : Good m) : m_require_whole_move [eM m] = some () := by
  unfold m_require_whole_move
  have e : mapO (fun (x2 : D) => (m_is_whole_move_of x2).bind fun t5 => some t5) [eM m] = some [true] := by
    unfold mapO mapO
    rw [whole_ok h]; rfl
  rw [szO_ok (by exact Nat.le_of_ble_eq_true rfl), Option.bind_some, e]
  rfl
theorem require2 {m k : Mv} (h : Good m) (hk : Good k) : m_require_whole_move [eM m, eM k] = some () := by
  unfold m_require_whole_move
  have e : mapO (fun (x2 : D) => (m_is_whole_move_of x2).bind fun t5 => some t5) [eM m, eM k] = some [true, true] := by
    unfold mapO mapO mapO
    rw [whole_ok h, whole_ok hk]; rfl
  rw [szO_ok (by exact Nat.le_of_ble_eq_true rfl), Option.bind_some, e]
  rfl
def P3 (p : Int × Int) : Int × Int × Int := (p.1, p.2, 1)
theorem led_in_ok {m : Mv} {p : Int × Int × Int} (h : Le m (10 ^ 200)) (h1 : ab p.1 ≤ 10 ^ 200) (h2 : ab p.2.1 ≤ 10 ^ 200) : m_led_in m p = some (P3 (app m (p.1, p.2.1))) := by
  obtain ⟨a, b, c, d, e, f⟩ := h
  unfold m_led_in
  rw [mul_ab a h1, Option.bind_some, mul_ab b h2, Option.bind_some, mul_ab c h1, Option.bind_some, mul_ab d h2, Option.bind_some]
  rfl
def RLe (r : Rw) (g : Int) : Prop := ab r.1.1 ≤ g ∧ ab r.1.2 ≤ g ∧ ab r.2.1 ≤ g ∧ ab r.2.2 ≤ g
theorem led_rows_ok {a b : Rw} (ha : RLe a (10 ^ 200)) (hb : RLe b (10 ^ 200)) : m_led_rows a b = some (rmul a b) := by
  obtain ⟨a1, a2, a3, a4⟩ := ha
  obtain ⟨b1, b2, b3, b4⟩ := hb
  unfold m_led_rows
  have e : mapO (fun (x2 : (Int × Int)) => (mulO x2.1 a.1.1).bind fun t5 => (mulO x2.2 a.2.1).bind fun t6 => (mulO x2.1 a.1.2).bind fun t7 => (mulO x2.2 a.2.2).bind fun t8 => some ((t5 + t6), (t7 + t8))) ([b.1, b.2] : List (Int × Int)) = some [(rmul a b).1, (rmul a b).2] := by
    unfold mapO mapO mapO
    rw [mul_ab b1 a1, Option.bind_some, mul_ab b2 a3, Option.bind_some, mul_ab b1 a2, Option.bind_some, mul_ab b2 a4, Option.bind_some, mul_ab b3 a1, Option.bind_some, mul_ab b4 a3, Option.bind_some, mul_ab b3 a2, Option.bind_some, mul_ab b4 a4]
    rfl
  rw [szO_ok (by exact Nat.le_of_ble_eq_true rfl), Option.bind_some, e]
  rfl
theorem _root_.Mo.Le.up {m : Mv} {g k : Int} (h : Le m g) (hk : g ≤ k) : Le m k := by
  obtain ⟨a, b, c, d, e, f⟩ := h
  exact ⟨Int.le_trans a hk, Int.le_trans b hk, Int.le_trans c hk, Int.le_trans d hk, Int.le_trans e hk, Int.le_trans f hk⟩
theorem gBB : (G : Int) ≤ 10 ^ 200 := by decide +kernel
theorem behind_ok {a b : Mv} (ha : Good a) (hb : Good b) : m_led_behind a b = some (mul a b) := by
  have la := ha.le.up gBB
  have lb := hb.le.up gBB
  unfold m_led_behind
  rw [require2 ha hb, Option.bind_some, led_in_ok lb la.2.2.2.2.1 la.2.2.2.2.2, Option.bind_some, led_rows_ok ⟨la.1, la.2.1, la.2.2.1, la.2.2.2.1⟩ ⟨lb.1, lb.2.1, lb.2.2.1, lb.2.2.2.1⟩, Option.bind_some]
  rfl
theorem run_ok {m m' : Mv} {l : List Mv} (h : Run m l m') : forS (fun (x3 : Mv) (s2 : Mv) => (m_led_behind s2 x3).bind fun t6 => some t6) l m = some m' := by
  induction h with
  | nil => rfl
  | cons a b c ih =>
    unfold forS
    rw [behind_ok a b]
    exact ih
theorem made_ok {m' : Mv} {l : List Mv} (h : Run one l m') : m__law_made l = some m' := by
  unfold m__law_made
  rw [show m__law_still = some one from rfl, Option.bind_some, show forS (fun (x3 : Mv) (s2 : Mv) => (m_led_behind s2 x3).bind fun t6 => some t6) l one = some m' from run_ok h]
  rfl
/-! ### points -/
theorem common_ok (a b : Int) (hb : b.natAbs < 2 ^ 490) : m_common a b = some (gc a b) := by
  unfold m_common
  rw [show (whileS (fun s1 : Int × Int => some (decide (0 < s1.2))) (fun s1 : Int × Int => (modO s1.1 s1.2).bind fun t5 => some (s1.2, t5)) FUEL ((a.natAbs : Int), (b.natAbs : Int))) = _ from euc_pos a b hb]
  rfl
def PtOk (p : Int × Int) : Prop := ab p.1 ≤ G ∧ ab p.2 ≤ G
theorem g490 {x : Int} (h : ab x ≤ G) : x.natAbs < 2 ^ 490 := Nat.lt_of_le_of_lt (show x.natAbs ≤ 10 ^ 60 by unfold ab G at h; omega) (by decide +kernel)
theorem point_ok {p : Int × Int} (h : PtOk p) : m_is_point_of (P3 p) = some true := by
  obtain ⟨h1, h2⟩ := h
  unfold m_is_point_of
  have w : ∀ x : Int, ab x ≤ G → m_is_within (.int x) (-999999999999999999999999999999999999999999999999999999999999) 999999999999999999999999999999999999999999999999999999999999 = some true := fun x hx => by
    rw [within_ok]
    unfold ab G at hx
    simp
    omega
  have e : mapO (fun (x2 : Int) => (m_is_within (.int x2) (-999999999999999999999999999999999999999999999999999999999999) 999999999999999999999999999999999999999999999999999999999999).bind fun t5 => some t5) ([(P3 p).1, (P3 p).2.1, (P3 p).2.2] : List Int) = some [true, true, true] := by
    unfold mapO mapO mapO mapO
    rw [w (P3 p).1 h1, w (P3 p).2.1 h2, w (P3 p).2.2 (show ab 1 ≤ G by decide)]; rfl
  rw [iteF (by rfl), iteF (by rfl), szO_ok (by exact Nat.le_of_ble_eq_true rfl), Option.bind_some, e, Option.bind_some, Option.bind_some, Option.bind_some, iteF (by rfl), iteT (by rfl), common_ok (P3 p).1 (P3 p).2.1 (g490 h2), Option.bind_some, common_ok _ (P3 p).2.2 (show (1 : Int).natAbs < 2 ^ 490 by decide), Option.bind_some]
  unfold gc
  simp [P3]
theorem whole_in_ok (l : List (Int × Int)) (hl : l.length ≤ 40) : m_is_whole_in (l.map P3) = some true := by
  unfold m_is_whole_in
  rw [szO_ok (by rw [List.length_map]; omega), Option.bind_some, mapO_ok (f := fun _ => true) (fun x hx => by
    obtain ⟨p, _, rfl⟩ := List.mem_map.mp hx
    rfl), Option.bind_some]
  simp
theorem all_true {α : Type} (l : List α) : ((l.map fun _ => true).all id) = true := by simp
theorem require_points_ok {l : List (Int × Int)} (h0 : 0 < l.length) (h1 : l.length ≤ 40) (h : ∀ p ∈ l, PtOk p) : m_require_points (l.map P3) = some () := by
  unfold m_require_points
  rw [iteF (by rw [List.length_map]; simp; omega), szO_ok (by rw [List.length_map]; omega), Option.bind_some, mapO_ok (f := fun _ => true) (fun x hx => by
    obtain ⟨p, hp, rfl⟩ := List.mem_map.mp hx
    rw [point_ok (h p hp)]; rfl), Option.bind_some, iteF (by rw [all_true]; rfl), whole_in_ok l h1]
  rfl
theorem PtOk.bb {p : Int × Int} (h : PtOk p) : ab p.1 ≤ 10 ^ 200 ∧ ab p.2 ≤ 10 ^ 200 := ⟨Int.le_trans h.1 gBB, Int.le_trans h.2 gBB⟩
theorem led_ok {m : Mv} {l : List (Int × Int)} (hm : Good m) (h0 : 0 < l.length) (h1 : l.length ≤ 40) (h : ∀ p ∈ l, PtOk p) : m_led m (l.map P3) = some ((l.map (app m)).map P3) := by
  unfold m_led
  rw [require1 hm, Option.bind_some, require_points_ok h0 h1 h, Option.bind_some, szO_ok (by rw [List.length_map]; omega), Option.bind_some, mapO_ok (f := fun x => P3 (app m (x.1, x.2.1))) (fun x hx => by
    obtain ⟨p, hp, rfl⟩ := List.mem_map.mp hx
    rw [led_in_ok (hm.le.up gBB) (h p hp).bb.1 (h p hp).bb.2]; rfl), Option.bind_some, List.map_map, List.map_map]
  rfl
/-! ### == -/
theorem pl_int (i : Int) : pl (.int i) = true := rfl
theorem eM_pl (m : Mv) : Pl (eM m) := ⟨rfl, by unfold eM e_t2t2t2iit2iit2ii e_t2t2iit2ii e_t2ii; simp [PyData.depth, PyData.depthAll]⟩
theorem eM_inj (a b : Mv) (h : eM a = eM b) : a = b := by
  obtain ⟨⟨⟨a1, a2⟩, ⟨a3, a4⟩⟩, ⟨a5, a6⟩⟩ := a
  obtain ⟨⟨⟨b1, b2⟩, ⟨b3, b4⟩⟩, ⟨b5, b6⟩⟩ := b
  simp [eM, e_t2t2t2iit2iit2ii, e_t2t2iit2ii, e_t2ii] at h
  simp [h]
theorem eq_M (a b : Mv) : eqO (eM a) (eM b) = some (decide (a = b)) := eqO_in eM_pl eM_inj a b
theorem e3_pl (p : Int × Int × Int) : Pl (e_t3iii p) := ⟨rfl, by unfold e_t3iii; simp [PyData.depth, PyData.depthAll]⟩
theorem e3_inj (a b : Int × Int × Int) (h : e_t3iii a = e_t3iii b) : a = b := by
  obtain ⟨a1, a2, a3⟩ := a
  obtain ⟨b1, b2, b3⟩ := b
  simp [e_t3iii] at h
  simp [h]
theorem ePs_pl (l : List (Int × Int × Int)) : Pl (e_ut3iii l) := by
  unfold e_ut3iii
  refine ⟨plAll_map (fun p => (e3_pl p).pl) l, ?_⟩
  unfold PyData.depth
  have := depthAll_map (f := e_t3iii) (n := 1) (fun p => by unfold e_t3iii; simp [PyData.depth, PyData.depthAll]) l
  omega
theorem ePs_inj (a b : List (Int × Int × Int)) (h : e_ut3iii a = e_ut3iii b) : a = b := by
  unfold e_ut3iii at h
  exact map_inj e3_inj a b (by simpa using h)
theorem eq_Ps (a b : List (Int × Int × Int)) : eqO (e_ut3iii a) (e_ut3iii b) = some (decide (a = b)) := eqO_in ePs_pl ePs_inj a b
theorem eq_P (a b : Int × Int × Int) : eqO (e_t3iii a) (e_t3iii b) = some (decide (a = b)) := eqO_in e3_pl e3_inj a b
/-- a def's paper of a move -/
theorem do_lead_ok {m : Mv} {l : List (Int × Int)} (hm : Good m) (h1 : l.length ≤ 40) (h : ∀ p ∈ l, PtOk p) (k : List (Int × Int × Int)) (hk : k = (l.map (app m)).map P3) : m_do_lead m (l.map P3) k = some true := by
  unfold m_do_lead
  rw [Option.bind_some, szO_ok (by rw [List.length_zip, List.length_map]; omega), Option.bind_some]
  have : ∀ x ∈ List.zip (l.map P3) k, ((m_led_in m x.1).bind fun t6 => (eqO (e_t3iii t6) (e_t3iii x.2)).bind fun t7 => some t7) = some true := by
    rw [hk, List.map_map, List.zip_map']
    intro x hx
    obtain ⟨p, hp, rfl⟩ := List.mem_map.mp hx
    rw [led_in_ok (hm.le.up gBB) (h p hp).bb.1 (h p hp).bb.2, Option.bind_some, eq_P]
    simp [P3]
  rw [mapO_ok (f := fun _ => true) this, Option.bind_some, all_true]
end Abs
/-! The whole form, evaluated -/
namespace Abs
open PySem PySem.Spec PyProof.Rows L2 Mo
theorem cutL_lo {α : Type} (l : List α) (k : Nat) : cutL l (some (k : Int)) none = l.drop k := by
  unfold cutL
  rw [HT.sIx_none, HT.sIx_nat]
  by_cases h : k ≤ l.length
  · rw [Nat.min_eq_left h, List.take_of_length_le (by rw [List.length_drop]; omega)]
  · rw [Nat.min_eq_right (by omega), List.drop_eq_nil_of_le (Nat.le_refl _), List.drop_eq_nil_of_le (by omega)]
    simp
theorem cutL_hi {α : Type} (l : List α) (k : Nat) : cutL l none (some (k : Int)) = l.take k := by
  unfold cutL
  rw [HT.sIx_none, HT.sIx_nat, List.drop_zero, Nat.sub_zero]
  by_cases h : k ≤ l.length
  · rw [Nat.min_eq_left h]
  · rw [Nat.min_eq_right (by omega), List.take_of_length_le (by omega), List.take_of_length_le (by omega)]
def row0 (cols : List (Int × Int)) (L : Rw) : List Int := cols.map fun p => (ap L p).1
def row1 (cols : List (Int × Int)) (L : Rw) : List Int := cols.map fun p => (ap L p).2
def rowsOf (cols : List (Int × Int)) (L : Rw) : List (List Int) := [row0 cols L, row1 cols L]
def leadOf (L : Rw) : List (List Int) := [[L.1.1, L.1.2], [L.2.1, L.2.2]]
theorem set0 {α : Type} {x y v : α} : setO [x, y] 0 v = some [v, y] := rfl
theorem set1 {α : Type} {x y v : α} : setO [x, y] 1 v = some [x, v] := rfl
theorem zip_map2 {α β : Type} (f g : α → β) (l : List α) : List.zip (l.map f) (l.map g) = l.map fun x => (f x, g x) := List.zip_map'
theorem mapO_map {α β γ : Type} {m : β → Option γ} {g : α → β} {f : α → γ} (l : List α) (h : ∀ x ∈ l, m (g x) = some (f x)) : mapO m (l.map g) = some (l.map f) := by
  induction l with
  | nil => rfl
  | cons x t ih =>
    rw [List.map_cons]
    unfold mapO
    rw [h x List.mem_cons_self, Option.bind_some, ih (fun y hy => h y (List.mem_cons_of_mem _ hy))]
    rfl
theorem take10 {cols : List (Int × Int)} {L : Rw} {q : Int} (hc : cols.length ≤ 1000) (hq : ab q ≤ 10 ^ 200) (hL : Lb L (10 ^ 200)) (hp : ∀ p ∈ cols, ab (ap L p).1 ≤ 10 ^ 200) : m_take_in (rowsOf cols L) (leadOf L) 1 0 q = some (rowsOf cols (low q L), leadOf (low q L)) := by
  obtain ⟨h1, h2, h3, h4⟩ := hL
  unfold m_take_in rowsOf leadOf
  rw [ixO_1, Option.bind_some, ixO_0, Option.bind_some, Option.bind_some]
  rw [show List.zip (row1 cols L) (row0 cols L) = cols.map (fun p => ((ap L p).2, (ap L p).1)) from zip_map2 _ _ _, szO_ok (by rw [List.length_map]; omega), Option.bind_some]
  rw [mapO_map (f := fun p => (ap (low q L) p).2) cols (fun p hp' => by rw [mul_ab hq (hp p hp'), Option.bind_some, ap_low]), Option.bind_some, set1, Option.bind_some, ixO_1, Option.bind_some, ixO_0, Option.bind_some, Option.bind_some]
  rw [szO_ok (by exact Nat.le_of_ble_eq_true rfl), Option.bind_some]
  have e : mapO (fun (x15 : (Int × Int)) => (mulO q x15.2).bind fun t18 => some (x15.1 - t18)) (List.zip [L.2.1, L.2.2] [L.1.1, L.1.2]) = some [(low q L).2.1, (low q L).2.2] := by
    show mapO _ [(L.2.1, L.1.1), (L.2.2, L.1.2)] = _
    unfold mapO mapO mapO
    rw [mul_ab hq h1, mul_ab hq h2]; rfl
  rw [e, Option.bind_some, set1, Option.bind_some]
  have e2 : row0 cols (low q L) = row0 cols L := List.map_congr_left fun p _ => by rw [ap_low]
  show some ([row0 cols L, _], _) = some ([row0 cols (low q L), _], _)
  rw [e2]
  rfl
theorem take01 {cols : List (Int × Int)} {L : Rw} {q : Int} (hc : cols.length ≤ 1000) (hq : ab q ≤ 10 ^ 200) (hL : Lb L (10 ^ 200)) (hp : ∀ p ∈ cols, ab (ap L p).2 ≤ 10 ^ 200) : m_take_in (rowsOf cols L) (leadOf L) 0 1 q = some (rowsOf cols (high q L), leadOf (high q L)) := by
  obtain ⟨h1, h2, h3, h4⟩ := hL
  unfold m_take_in rowsOf leadOf
  rw [ixO_0, Option.bind_some, ixO_1, Option.bind_some, Option.bind_some]
  rw [show List.zip (row0 cols L) (row1 cols L) = cols.map (fun p => ((ap L p).1, (ap L p).2)) from zip_map2 _ _ _, szO_ok (by rw [List.length_map]; omega), Option.bind_some]
  rw [mapO_map (f := fun p => (ap (high q L) p).1) cols (fun p hp' => by rw [mul_ab hq (hp p hp'), Option.bind_some, ap_high]), Option.bind_some, set0, Option.bind_some, ixO_0, Option.bind_some, ixO_1, Option.bind_some, Option.bind_some]
  rw [szO_ok (by exact Nat.le_of_ble_eq_true rfl), Option.bind_some]
  have e : mapO (fun (x15 : (Int × Int)) => (mulO q x15.2).bind fun t18 => some (x15.1 - t18)) (List.zip [L.1.1, L.1.2] [L.2.1, L.2.2]) = some [(high q L).1.1, (high q L).1.2] := by
    show mapO _ [(L.1.1, L.2.1), (L.1.2, L.2.2)] = _
    unfold mapO mapO mapO
    rw [mul_ab hq h3, mul_ab hq h4]; rfl
  rw [e, Option.bind_some, set0, Option.bind_some]
  have e2 : row1 cols (high q L) = row1 cols L := List.map_congr_left fun p _ => by rw [ap_high]
  show some ([_, row1 cols L], _) = some ([_, row1 cols (high q L)], _)
  rw [e2]
  rfl
theorem at0 {cols : List (Int × Int)} {c : Int × Int} {L : Rw} {j : Nat} (h : cols[j]? = some c) : ixO (row0 cols L) (j : Int) = some (ap L c).1 := ixO_at (by unfold row0; rw [List.getElem?_map, h]; rfl)
theorem at1 {cols : List (Int × Int)} {c : Int × Int} {L : Rw} {j : Nat} (h : cols[j]? = some c) : ixO (row1 cols L) (j : Int) = some (ap L c).2 := ixO_at (by unfold row1; rw [List.getElem?_map, h]; rfl)
theorem two_le {N P : Int} (h0 : 0 ≤ N) (h0' : 0 ≤ P) (h : N ≤ 10 ^ 67) (hP : P ≤ 10 ^ 62) : 2 * (N * P) ≤ 10 ^ 130 := by
  have : N * P ≤ 10 ^ 67 * 10 ^ 62 := Int.mul_le_mul h hP h0' (by omega)
  omega
theorem clear_ok {cols : List (Int × Int)} {c : Int × Int} {L : Rw} {j : Nat} (hj : cols[j]? = some c) (hc : cols.length ≤ 1000) (hL : Lb L (10 ^ 67)) (hP : CLe cols (10 ^ 62)) : m_clear_in (rowsOf cols L) (leadOf L) (j : Int) = some (rowsOf cols (clr c L), leadOf (clr c L)) := by
  have bd : ∀ p ∈ cols, ab (ap L p).1 ≤ 10 ^ 130 ∧ ab (ap L p).2 ≤ 10 ^ 130 := fun p hp => by
    have h1 := ap_le hL (hP p hp).1 (hP p hp).2
    have h2 := two_le (N := 10 ^ 67) (P := 10 ^ 62) (by decide) (by decide) (Int.le_refl _) (Int.le_refl _)
    omega
  have hcm : c ∈ cols := List.mem_of_getElem? hj
  unfold m_clear_in
  have first : (if (decide ((ap L c).1 ≠ 0)) = true then ((ixO (rowsOf cols L) 1).bind fun t4 => (ixO (t4 : List Int) (j : Int)).bind fun t5 => (ixO (rowsOf cols L) 0).bind fun t6 => (ixO (t6 : List Int) (j : Int)).bind fun t7 => (fdivO t5 t7).bind fun t8 => (m_take_in (rowsOf cols L) (leadOf L) 1 0 t8).bind fun t9 => some (t9.1, t9.2)) else (some (rowsOf cols L, leadOf L))) = some (rowsOf cols (clr1 c L), leadOf (clr1 c L)) := by
    by_cases z : (ap L c).1 = 0
    · rw [iteF (by simpa using z), clr1_z z]
    · have b1 := (bd c hcm).1
      have b2 := (bd c hcm).2
      have b3 := fdiv_ab (ap L c).2 (ap L c).1 z
      rw [iteT (by simpa using z), clr1_n z, show ixO (rowsOf cols L) 1 = some (row1 cols L) from ixO_1, Option.bind_some, at1 hj, Option.bind_some, show ixO (rowsOf cols L) 0 = some (row0 cols L) from ixO_0, Option.bind_some, at0 hj, Option.bind_some,
        fdivO_ok z (by unfold BB ab at *; omega) (by unfold BB ab at *; omega), Option.bind_some, take10 hc (by omega) (Lb.up hL (by omega)) (fun p hp => by have := (bd p hp).1; omega), Option.bind_some]
  have h0 : ixO (rowsOf cols L) 0 = some (row0 cols L) := ixO_0
  rw [h0] at first
  rw [h0, Option.bind_some, at0 hj, Option.bind_some, first, Option.bind_some]
  simp only []
  rw [show ixO (rowsOf cols (clr1 c L)) 1 = some (row1 cols (clr1 c L)) from ixO_1, Option.bind_some, at1 hj, Option.bind_some]
  unfold clr
  by_cases z : (ap (clr1 c L) c).2 = 0
  · rw [iteF (by simpa using z), if_neg (by simpa using z)]
    rfl
  · rw [iteT (by simpa using z), if_pos z, Option.bind_some]
    rfl
theorem enc_eq (cols : List (Int × Int)) (L : Rw) : (rowsOf cols L, leadOf L) = ((rowsOf cols L, leadOf L).1, (rowsOf cols L, leadOf L).2) := rfl
/-- the test of the loop -/
def fCond (top at_ : Int) : List (List Int) × List (List Int) → Option Bool := fun s17 => (if (decide (top < 2)) = true then ((szO ((cutL s17.1 (some (top + 1)) none) : List (List Int))).bind fun t21 => (mapO (fun (x22 : (List Int)) => (ixO (x22 : List Int) at_).bind fun t25 => some (decide (t25 ≠ 0))) ((cutL s17.1 (some (top + 1)) none) : List (List Int))).bind fun t26 => some ((t26 : List Bool).any id)) else some false).bind fun t28 => some t28
def fBd (at_ : Int) : List (List Int) × List (List Int) → Option (List (List Int) × List (List Int)) := fun s17 => (m_clear_in s17.1 s17.2 at_).bind fun t29 => some (t29.1, t29.2)
theorem cond0 {cols : List (Int × Int)} {c : Int × Int} {L : Rw} {j : Nat} (hj : cols[j]? = some c) : fCond 0 (j : Int) (rowsOf cols L, leadOf L) = some (decide ((ap L c).2 ≠ 0)) := by
  unfold fCond
  rw [iteT (by rfl), show cutL (rowsOf cols L, leadOf L).1 (some (0 + 1)) none = [row1 cols L] from cutL_lo (rowsOf cols L) 1, szO_ok (by exact Nat.le_of_ble_eq_true rfl), Option.bind_some]
  unfold mapO mapO
  rw [at1 hj]
  simp
theorem cond12 {cols : List (Int × Int)} {L : Rw} {j : Nat} {t : Nat} (h : 0 < t) : fCond (t : Int) (j : Int) (rowsOf cols L, leadOf L) = some false := by
  unfold fCond
  by_cases z : (t : Int) < 2
  · have : t = 1 := by omega
    subst this
    rw [iteT (by rfl), show cutL (rowsOf cols L, leadOf L).1 (some (((1 : Nat) : Int) + 1)) none = [] from cutL_lo (rowsOf cols L) 2]
    rfl
  · rw [iteF (by simpa using z)]; rfl
theorem loop_ok {cols : List (Int × Int)} {c : Int × Int} {j : Nat} (hj : cols[j]? = some c) (hc : cols.length ≤ 1000) (hP : CLe cols (10 ^ 62)) : ∀ (n : Nat) (L : Rw) (N X : Int), 0 ≤ X → Lb L N → Xb L c X → N + n * X ≤ 10 ^ 67 → (ap (clrN n c L) c).2 = 0 →
    whileS (fCond 0 (j : Int)) (fBd (j : Int)) (n + 1) (rowsOf cols L, leadOf L) = some (rowsOf cols (clrN n c L), leadOf (clrN n c L))
  | 0, L, N, X, hX, h, x, hb, he => by
    unfold clrN at he ⊢
    unfold whileS
    rw [cond0 hj, Option.bind_some, iteF (by simpa using he)]
  | n + 1, L, N, X, hX, h, x, hb, he => by
    have c1 : ((n + 1 : Nat) : Int) * X = n * X + X := by rw [show ((n + 1 : Nat) : Int) = (n : Int) + 1 by omega, Int.add_mul, Int.one_mul]
    have c2 : 0 ≤ (n : Int) * X := Int.mul_nonneg (by omega) hX
    unfold clrN at he ⊢
    unfold whileS
    rw [cond0 hj, Option.bind_some]
    by_cases z : (ap L c).2 = 0
    · rw [iteF (by simpa using z), if_pos z]
    · rw [if_neg z] at he ⊢
      obtain ⟨a, b⟩ := clr_bound hX h x
      rw [iteT (by simpa using z)]
      unfold fBd
      rw [clear_ok hj hc (Lb.up h (by omega)) hP]
      exact loop_ok hj hc hP n (clr c L) (N + X) X hX a b (by omega) he
end Abs
namespace Abs
open PySem PySem.Spec PyProof.Rows L2 Mo
abbrev FS := Int × (List (List Int)) × (List (List Int))
def fNeg (t at_ : Int) (s19 : List (List Int) × List (List Int)) (t36 : Int) : Option (List (List Int) × List (List Int)) :=
  if (decide (t36 < 0)) = true then ((ixO (s19.1 : List (List Int)) t).bind fun t38 => (szO (t38 : List Int)).bind fun t39 => (mapO (fun (x40 : Int) => some (-x40)) (t38 : List Int)).bind fun t43 => (ixO (s19.2 : List (List Int)) t).bind fun t44 => (szO (t44 : List Int)).bind fun t45 => (mapO (fun (x46 : Int) => some (-x46)) (t44 : List Int)).bind fun t49 => (setO (s19.1 : List (List Int)) t t43).bind fun t50 => (setO (s19.2 : List (List Int)) t t49).bind fun t51 => some (t50, t51)) else (some (s19.1, s19.2))
def fRed (t at_ : Int) (j37 : List (List Int) × List (List Int)) : Option (List (List Int) × List (List Int)) :=
  if (decide (t = 1)) = true then ((ixO (j37.1 : List (List Int)) 0).bind fun t53 => (ixO (t53 : List Int) at_).bind fun t54 => (ixO (j37.1 : List (List Int)) 1).bind fun t55 => (ixO (t55 : List Int) at_).bind fun t56 => (fdivO t54 t56).bind fun t57 => (m_take_in j37.1 j37.2 0 1 t57).bind fun t58 => some (t58.1, t58.2)) else (some (j37.1, j37.2))
def fBody (x14 : Int) (s13 : FS) : Option FS :=
  (whileS (fCond s13.1 x14) (fBd x14) FUEL (s13.2.1, s13.2.2)).bind fun s19 => (if (decide (s13.1 < 2)) = true then ((ixO (s19.1 : List (List Int)) s13.1).bind fun t30 => (ixO (t30 : List Int) x14).bind fun t31 => some (decide (t31 ≠ 0))) else some false).bind fun t33 => (if t33 = true then ((ixO (s19.1 : List (List Int)) s13.1).bind fun t35 => (ixO (t35 : List Int) x14).bind fun t36 => (fNeg s13.1 x14 s19 t36).bind fun j37 => (fRed s13.1 x14 j37).bind fun j52 => some ((s13.1 + 1), j52.1, j52.2)) else (some (s13.1, s19.1, s19.2)) : Option FS).bind fun j34 => some (j34.1, j34.2.1, j34.2.2)
def enc (cols : List (Int × Int)) (s : Nat × Rw) : FS := ((s.1 : Int), rowsOf cols s.2, leadOf s.2)
def StOk (s : Nat × Rw) : Prop := s.1 ≤ 2 ∧ (s.1 = 0 → s.2 = ((1, 0), (0, 1))) ∧ (s.1 = 1 → Lb s.2 (10 ^ 66))
theorem fNeg_ok {cols : List (Int × Int)} {c : Int × Int} {L : Rw} {t : Nat} {at_ : Int} (ht : t < 2) (hc : cols.length ≤ 1000) : fNeg (t : Int) at_ (rowsOf cols L, leadOf L) (sg t (ap L c)) = some (rowsOf cols (nn t c L), leadOf (nn t c L)) := by
  unfold fNeg nn ngT
  by_cases z : sg t (ap L c) < 0
  · rw [iteT (by simpa using z), if_pos z]
    have l0 : ∀ l : List Int, l.length ≤ 1000 → szO l = some l := fun l h => szO_ok (by omega)
    rcases (show t = 0 ∨ t = 1 by omega) with rfl | rfl
    · rw [if_pos rfl]
      simp only []
      rw [show ixO (rowsOf cols L) ((0 : Nat) : Int) = some (row0 cols L) from ixO_0, Option.bind_some, l0 _ (by unfold row0; rw [List.length_map]; exact hc), Option.bind_some]
      unfold row0
      rw [mapO_map (f := fun p => (ap (ng0 L) p).1) cols (fun p _ => by rw [ap_ng0]), Option.bind_some, show ixO (leadOf L) ((0 : Nat) : Int) = some [L.1.1, L.1.2] from ixO_0, Option.bind_some, l0 _ (by exact Nat.le_of_ble_eq_true rfl), Option.bind_some]
      show (some ([cols.map _, row1 cols L], _)) = some ([cols.map _, row1 cols (ng0 L)], _)
      rw [show row1 cols (ng0 L) = row1 cols L from List.map_congr_left fun p _ => by rw [ap_ng0]]
      rfl
    · rw [if_neg (by decide)]
      simp only []
      rw [show ixO (rowsOf cols L) ((1 : Nat) : Int) = some (row1 cols L) from ixO_1, Option.bind_some, l0 _ (by unfold row1; rw [List.length_map]; exact hc), Option.bind_some]
      unfold row1
      rw [mapO_map (f := fun p => (ap (ng1 L) p).2) cols (fun p _ => by rw [ap_ng1]), Option.bind_some, show ixO (leadOf L) ((1 : Nat) : Int) = some [L.2.1, L.2.2] from ixO_1, Option.bind_some, l0 _ (by exact Nat.le_of_ble_eq_true rfl), Option.bind_some]
      show (some ([row0 cols L, cols.map _], _)) = some ([row0 cols (ng1 L), cols.map _], _)
      rw [show row0 cols (ng1 L) = row0 cols L from List.map_congr_left fun p _ => by rw [ap_ng1]]
      rfl
  · rw [iteF (by simpa using z), if_neg z]
theorem formBody_ok {cols : List (Int × Int)} {c : Int × Int} {j : Nat} (hj : cols[j]? = some c) (hc : cols.length ≤ 1000) (hP : CLe cols (10 ^ 62)) (s : Nat × Rw) (hs : StOk s) : fBody (j : Int) (enc cols s) = some (enc cols (fstep s c)) ∧ StOk (fstep s c) := by
  obtain ⟨t, L⟩ := s
  obtain ⟨h2, h0, h1⟩ := hs
  simp only at h2 h0 h1
  have hcm : c ∈ cols := List.mem_of_getElem? hj
  have hcP := hP c hcm
  rcases (show t = 0 ∨ t = 1 ∨ t = 2 by omega) with rfl | rfl | rfl
  · have hL := h0 rfl
    subst hL
    have hend : (ap (clrN 999 c ((1, 0), (0, 1))) c).2 = 0 := clr_end 450 999 c _ (by
      rw [ap_id]
      have := hcP.1
      exact Nat.lt_of_le_of_lt (show c.1.natAbs ≤ 10 ^ 62 by unfold ab at this; omega) (by decide +kernel)) (by decide)
    have hLb : Lb ((1, 0), (0, 1)) 1 := by refine ⟨?_, ?_, ?_, ?_⟩ <;> decide
    have hX : Xb ((1, 0), (0, 1)) c (10 ^ 62) := by
      refine ⟨?_, ?_⟩
      · rw [ap_id]; show ab (c.2 * 1 - c.1 * 0) ≤ _
        rw [Int.mul_one, Int.mul_zero, Int.sub_zero]; exact hcP.2
      · rw [ap_id]; show ab (c.2 * 0 - c.1 * 1) ≤ _
        rw [Int.mul_one, Int.mul_zero, Int.zero_sub, ab_neg]; exact hcP.1
    have hw := loop_ok hj hc hP 999 _ 1 (10 ^ 62) (by decide) hLb hX (by decide +kernel) hend
    have hb := clrN_bound (n := 999) (c := c) (by decide) hLb hX
    have hf : fstep (0, ((1, 0), (0, 1))) c = if sg 0 (ap (clrN 999 c ((1, 0), (0, 1))) c) ≠ 0 then (1, nn 0 c (clrN 999 c ((1, 0), (0, 1)))) else (0, clrN 999 c ((1, 0), (0, 1))) := by
      unfold fstep lp fin3
      simp
    have hzero : sg 0 (ap (clrN 999 c ((1, 0), (0, 1))) c) = 0 → clrN 999 c ((1, 0), (0, 1)) = ((1, 0), (0, 1)) := fun z => by
      have hu : Un (clrN 999 c ((1, 0), (0, 1))) := un_clrN (.inl rfl)
      have : c = (0, 0) := (ap_zero_iff hu c).mp (Prod.ext z hend)
      exact clrN_stop (by rw [this, ap_id])
    generalize clrN 999 c ((1, 0), (0, 1)) = M at hw hb hf hend hzero
    rw [hf]
    unfold fBody enc
    rw [show (whileS (fCond ((((0 : Nat) : Int), rowsOf cols ((1, 0), (0, 1)), leadOf ((1, 0), (0, 1))) : FS).1 (j : Int)) (fBd (j : Int)) FUEL (rowsOf cols ((1, 0), (0, 1)), leadOf ((1, 0), (0, 1)))) = some (rowsOf cols M, leadOf M) from hw, Option.bind_some, iteT (by rfl)]
    simp only []
    rw [show ixO (rowsOf cols M) ((0 : Nat) : Int) = some (row0 cols M) from ixO_0, Option.bind_some, at0 hj, Option.bind_some, Option.bind_some]
    by_cases z : (ap M c).1 = 0
    · have z2 : sg 0 (ap M c) = 0 := z
      rw [iteF (by simpa using z), if_neg (by rw [z2]; simp)]
      refine ⟨rfl, Nat.zero_le _, fun _ => hzero z2, fun q => by cases q⟩
    · have z2 : sg 0 (ap M c) ≠ 0 := z
      rw [iteT (by simpa using z), if_pos z2, Option.bind_some, at0 hj, Option.bind_some, show (ap M c).1 = sg 0 (ap M c) from rfl, fNeg_ok (by decide) hc, Option.bind_some]
      refine ⟨rfl, Nat.le_succ 1, fun q => (by cases q), fun _ => lb_nn (Lb.up hb (by decide +kernel))⟩
  · have hL := h1 rfl
    have hw : whileS (fCond (((1 : Nat) : Int)) (j : Int)) (fBd (j : Int)) FUEL (rowsOf cols L, leadOf L) = some (rowsOf cols L, leadOf L) := by
      show whileS _ _ (999 + 1) _ = _
      unfold whileS
      rw [cond12 (by decide), Option.bind_some, iteF rfl]
    unfold fBody enc
    rw [show (whileS (fCond ((((1 : Nat) : Int), rowsOf cols L, leadOf L) : FS).1 (j : Int)) (fBd (j : Int)) FUEL (rowsOf cols L, leadOf L)) = some (rowsOf cols L, leadOf L) from hw, Option.bind_some, iteT (by rfl)]
    simp only []
    rw [show ixO (rowsOf cols L) ((1 : Nat) : Int) = some (row1 cols L) from ixO_1, Option.bind_some, at1 hj, Option.bind_some, Option.bind_some, fstep1]
    by_cases z : (ap L c).2 = 0
    · rw [iteF (by simpa using z), if_pos z]
      exact ⟨rfl, Nat.le_succ 1, fun q => by (simp only at q; omega), fun _ => hL⟩
    · rw [iteT (by simpa using z), if_neg z, Option.bind_some, at1 hj, Option.bind_some, show (ap L c).2 = sg 1 (ap L c) from rfl, fNeg_ok (by decide) hc, Option.bind_some]
      have hn := lb_nn (t := 1) (c := c) hL
      have hnz : (ap (nn 1 c L) c).2 ≠ 0 := by
        unfold nn ngT
        split
        · rw [if_neg (by decide), ap_ng1]
          show -(ap L c).2 ≠ 0
          omega
        · exact z
      generalize nn 1 c L = M at hn hnz
      have bd : ∀ p ∈ cols, ab (ap M p).1 ≤ 10 ^ 130 ∧ ab (ap M p).2 ≤ 10 ^ 130 := fun p hp => by
        have h1 := ap_le hn (hP p hp).1 (hP p hp).2
        have h2 := two_le (N := 10 ^ 66) (P := 10 ^ 62) (by decide) (by decide) (by decide +kernel) (Int.le_refl _)
        omega
      have b1 := (bd c hcm).1
      have b2 := (bd c hcm).2
      have b3 := fdiv_ab (ap M c).1 (ap M c).2 hnz
      unfold fRed
      rw [iteT (by rfl)]
      simp only []
      rw [show ixO (rowsOf cols M) 0 = some (row0 cols M) from ixO_0, Option.bind_some, at0 hj, Option.bind_some, show ixO (rowsOf cols M) 1 = some (row1 cols M) from ixO_1, Option.bind_some, at1 hj, Option.bind_some,
        fdivO_ok hnz (by unfold BB ab at *; omega) (by unfold BB ab at *; omega), Option.bind_some, take01 hc (by omega) (Lb.up hn (by decide +kernel)) (fun p hp => by have := (bd p hp).2; omega), Option.bind_some]
      refine ⟨?_, Nat.le_refl 2, fun q => by (simp only at q; omega), fun q => by (simp only at q; omega)⟩
      unfold fin3
      rw [if_pos rfl]
      rfl
  · have hw : whileS (fCond (((2 : Nat) : Int)) (j : Int)) (fBd (j : Int)) FUEL (rowsOf cols L, leadOf L) = some (rowsOf cols L, leadOf L) := by
      show whileS _ _ (999 + 1) _ = _
      unfold whileS
      rw [cond12 (by decide), Option.bind_some, iteF rfl]
    unfold fBody enc
    rw [show (whileS (fCond ((((2 : Nat) : Int), rowsOf cols L, leadOf L) : FS).1 (j : Int)) (fBd (j : Int)) FUEL (rowsOf cols L, leadOf L)) = some (rowsOf cols L, leadOf L) from hw, Option.bind_some, iteF (by rfl), Option.bind_some, iteF (by rfl), Option.bind_some, fstep2]
    exact ⟨rfl, Nat.le_refl 2, fun q => by (simp only at q; omega), fun q => by (simp only at q; omega)⟩
theorem fold_ok {cols : List (Int × Int)} (hc : cols.length ≤ 1000) (hP : CLe cols (10 ^ 62)) : ∀ (rest pre : List (Int × Int)) (s : Nat × Rw), cols = pre ++ rest → StOk s → forS fBody ((List.range' pre.length rest.length).map fun i => (0 : Int) + (i : Nat)) (enc cols s) = some (enc cols (rest.foldl fstep s))
  | [], pre, s, _, _ => rfl
  | c :: rest, pre, s, e, hs => by
    have hj : cols[pre.length]? = some c := by rw [e]; simp
    obtain ⟨h1, h2⟩ := formBody_ok hj hc hP s hs
    rw [List.length_cons, List.range'_succ, List.map_cons]
    unfold forS
    rw [show (0 : Int) + (pre.length : Nat) = ((pre.length : Nat) : Int) by omega, h1, Option.bind_some]
    have h3 := fold_ok hc hP rest (pre ++ [c]) (fstep s c) (by rw [e]; simp) h2
    rw [List.length_append] at h3
    exact h3
def diff (p0 : Int × Int) (l : List (Int × Int)) : List (Int × Int) := l.map fun p => (p.1 - p0.1, p.2 - p0.2)
theorem form_in_ok {p0 : Int × Int} {l : List (Int × Int)} (hl : l.length ≤ 1000) (hP : CLe (diff p0 l) (10 ^ 62)) : m_form_in ((p0 :: l).map P3) = some (rowsOf (diff p0 l) (form (diff p0 l)).2, leadOf (form (diff p0 l)).2) := by
  have hd : (diff p0 l).length = l.length := by unfold diff; rw [List.length_map]
  unfold m_form_in
  rw [List.map_cons, ixO_0, Option.bind_some, show cutL (P3 p0 :: l.map P3) (some 1) none = l.map P3 from cutL_lo (P3 p0 :: l.map P3) 1, szO_ok (by rw [List.length_map]; omega), Option.bind_some,
    mapO_map (m := fun x3 => some (x3.1 - (P3 p0).1)) (g := P3) (f := fun p => p.1 - p0.1) l (fun p _ => rfl), Option.bind_some, Option.bind_some, mapO_map (m := fun x8 => some (x8.2.1 - (P3 p0).2.1)) (g := P3) (f := fun p => p.2 - p0.2) l (fun p _ => rfl), Option.bind_some]
  rw [show (((P3 p0 :: l.map P3).length : Nat) : Int) - 1 = ((l.length : Nat) : Int) by rw [List.length_cons, List.length_map]; omega, rgO_ok l.length (by omega), Option.bind_some]
  have hst : ((0, [((l.map fun p => p.1 - p0.1), (l.map fun p => p.2 - p0.2)).1, ((l.map fun p => p.1 - p0.1), (l.map fun p => p.2 - p0.2)).2], [[(((1, 0), (0, 1)) : Rw).1.1, (((1, 0), (0, 1)) : Rw).1.2], [(((1, 0), (0, 1)) : Rw).2.1, (((1, 0), (0, 1)) : Rw).2.2]]) : FS) = enc (diff p0 l) (0, ((1, 0), (0, 1))) := by
    unfold enc rowsOf row0 row1 diff
    simp only [List.map_map]
    have e1 : (l.map ((fun p => (ap ((1, 0), (0, 1)) p).1) ∘ fun p => (p.1 - p0.1, p.2 - p0.2))) = l.map fun p => p.1 - p0.1 := List.map_congr_left fun p _ => by simp [ap_id]
    have e2 : (l.map ((fun p => (ap ((1, 0), (0, 1)) p).2) ∘ fun p => (p.1 - p0.1, p.2 - p0.2))) = l.map fun p => p.2 - p0.2 := List.map_congr_left fun p _ => by simp [ap_id]
    rw [e1, e2]
    rfl
  have hf := fold_ok (cols := diff p0 l) (by omega) hP (diff p0 l) [] (0, ((1, 0), (0, 1))) rfl ⟨by decide, fun _ => rfl, fun q => by (simp only at q; omega)⟩
  rw [List.length_nil, hd, ← List.range_eq_range'] at hf
  rw [hst]
  refine Eq.trans (congrArg (fun o => Option.bind o _) hf) ?_
  rw [Option.bind_some]
  show ((szO (rowsOf (diff p0 l) (form (diff p0 l)).2)).bind _) = _
  rw [szO_ok (by exact Nat.le_of_ble_eq_true rfl), Option.bind_some]
  show ((mapO (fun (x60 : List Int) => some x60) [row0 (diff p0 l) (form (diff p0 l)).2, row1 (diff p0 l) (form (diff p0 l)).2]).bind _) = _
  rw [show ∀ a b : List Int, mapO (fun (x60 : List Int) => some x60) [a, b] = some [a, b] from fun _ _ => rfl, Option.bind_some]
  show ((szO (leadOf (form (diff p0 l)).2)).bind _) = _
  rw [szO_ok (by exact Nat.le_of_ble_eq_true rfl), Option.bind_some]
  rfl
end Abs
namespace Abs
open PySem PySem.Spec PyProof.Rows L2 Mo
def PtsOk (l : List (Int × Int)) : Prop := l.length ≤ 40 ∧ ∀ p ∈ l, PtOk p
theorem diff_le {p0 : Int × Int} {l : List (Int × Int)} (h : PtsOk (p0 :: l)) : CLe (diff p0 l) (10 ^ 62) := by
  intro c hc
  obtain ⟨p, hp, rfl⟩ := List.mem_map.mp hc
  obtain ⟨a1, a2⟩ := h.2 p0 List.mem_cons_self
  obtain ⟨b1, b2⟩ := h.2 p (List.mem_cons_of_mem _ hp)
  unfold ab G at *
  simp only
  omega
theorem len_le {p0 : Int × Int} {l : List (Int × Int)} (h : PtsOk (p0 :: l)) : l.length ≤ 1000 := by
  have := h.1
  rw [List.length_cons] at this
  omega
def fL (p0 : Int × Int) (l : List (Int × Int)) : Rw := (form (diff p0 l)).2
def fH (p0 : Int × Int) (l : List (Int × Int)) : List (List Int) := rowsOf (diff p0 l) (fL p0 l)
theorem form_ok {p0 : Int × Int} {l : List (Int × Int)} (h : PtsOk (p0 :: l)) : m_form_in ((p0 :: l).map P3) = some (fH p0 l, leadOf (fL p0 l)) := form_in_ok (len_le h) (diff_le h)
theorem req_pts {p0 : Int × Int} {l : List (Int × Int)} (h : PtsOk (p0 :: l)) : m_require_points ((p0 :: l).map P3) = some () := require_points_ok (by rw [List.length_cons]; omega) h.1 h.2
theorem whole_form_ok {p0 : Int × Int} {l : List (Int × Int)} (h : PtsOk (p0 :: l)) : m_whole_form ((p0 :: l).map P3) = some (fH p0 l) := by
  unfold m_whole_form
  rw [req_pts h, Option.bind_some, form_ok h]
  rfl
theorem require_rows_ok {p0 q0 : Int × Int} {l k : List (Int × Int)} (h : PtsOk (p0 :: l)) (h2 : PtsOk (q0 :: k)) (hl : l.length = k.length) : m_require_rows ((p0 :: l).map P3) ((q0 :: k).map P3) = some () := by
  unfold m_require_rows
  rw [req_pts h, Option.bind_some, req_pts h2, Option.bind_some, iteF (by simp [hl])]
/-! the two rows tell the columns -/
theorem unzip_eq : ∀ {l k : List (Int × Int)}, l.map (·.1) = k.map (·.1) → l.map (·.2) = k.map (·.2) → l = k
  | [], [], _, _ => rfl
  | [], y :: k, h, _ => by simp at h
  | x :: l, [], h, _ => by simp at h
  | x :: l, y :: k, h, g => by
    rw [List.map_cons, List.map_cons, List.cons.injEq] at h g
    rw [unzip_eq h.2 g.2, Prod.ext h.1 g.1]
theorem rowsOf_eq {a b : List (Int × Int)} {L K : Rw} : rowsOf a L = rowsOf b K ↔ a.map (ap L) = b.map (ap K) := by
  unfold rowsOf row0 row1
  constructor
  · intro h
    simp only [List.cons.injEq, and_true] at h
    exact unzip_eq (by rw [List.map_map, List.map_map]; exact h.1) (by rw [List.map_map, List.map_map]; exact h.2)
  · intro h
    have h1 := congrArg (List.map (·.1)) h
    have h2 := congrArg (List.map (·.2)) h
    rw [List.map_map, List.map_map] at h1 h2
    simp only [List.cons.injEq, and_true]
    exact ⟨h1, h2⟩
theorem col450 {cols : List (Int × Int)} (h : CLe cols (10 ^ 62)) : ∀ c ∈ cols, c.1.natAbs < 2 ^ 450 := fun c hc => by
  have := (h c hc).1
  exact Nat.lt_of_le_of_lt (show c.1.natAbs ≤ 10 ^ 62 by unfold ab at this; omega) (by decide +kernel)
/-- one form EXACTLY IF rows lead there -/
theorem fH_iff {p0 q0 : Int × Int} {l k : List (Int × Int)} (h : PtsOk (p0 :: l)) (h2 : PtsOk (q0 :: k)) : fH p0 l = fH q0 k ↔ ∃ V, Un V ∧ (diff p0 l).map (ap V) = diff q0 k := by
  unfold fH
  rw [rowsOf_eq]
  exact form_same (col450 (diff_le h)) (col450 (diff_le h2))
theorem lead_read (L : Rw) : u_uui_t2t2iit2ii (leadOf L) = some L := rfl
theorem ab_un_mul {d : Int} (u : d = 1 ∨ d = -1) (x : Int) : ab (d * x) = ab x ∧ ab (-d * x) = ab x := by
  rcases u with e | e <;> rw [e]
  · rw [Int.one_mul, Int.neg_mul, Int.one_mul, ab_neg]; exact ⟨rfl, rfl⟩
  · rw [Int.neg_neg, Int.one_mul, Int.neg_mul, Int.one_mul, ab_neg]; exact ⟨rfl, rfl⟩
theorem rinv_lb {L : Rw} {N : Int} (u : Un L) (h : Lb L N) : Lb (rinv L) N := by
  obtain ⟨a, b, c, d⟩ := h
  unfold rinv
  exact ⟨by rw [(ab_un_mul u _).1]; exact d, by rw [(ab_un_mul u _).2]; exact b, by rw [(ab_un_mul u _).2]; exact c, by rw [(ab_un_mul u _).1]; exact a⟩
theorem back_rows_ok {K : Rw} (u : Un K) (h : Lb K (10 ^ 200)) : m_back_rows K = some (rinv K) := by
  obtain ⟨a, b, c, d⟩ := h
  have hd : K.1.1 * K.2.2 - K.1.2 * K.2.1 = det K := rfl
  have h1 : ab (det K) ≤ 10 ^ 200 := by rcases u with e | e <;> rw [e] <;> decide +kernel
  have h2 : ab (-(det K)) ≤ 10 ^ 200 := by rw [ab_neg]; exact h1
  unfold m_back_rows
  rw [mul_ab a d, Option.bind_some, mul_ab b c, Option.bind_some, hd, mul_ab h1 d, Option.bind_some, mul_ab h2 b, Option.bind_some, mul_ab h2 c, Option.bind_some, mul_ab h1 a]
  rfl
theorem led_rows_lb {a b : Rw} (ha : Lb a (10 ^ 200)) (hb : Lb b (10 ^ 200)) : m_led_rows a b = some (rmul a b) := led_rows_ok ha hb
def mvOf (p0 q0 : Int × Int) (l k : List (Int × Int)) : Mv := (rmul (fL p0 l) (rinv (fL q0 k)), (q0.1 - (ap (rmul (fL p0 l) (rinv (fL q0 k))) p0).1, q0.2 - (ap (rmul (fL p0 l) (rinv (fL q0 k))) p0).2))
theorem app_ap (m : Mv) (p : Int × Int) : app m p = ((ap m.1 p).1 + m.2.1, (ap m.1 p).2 + m.2.2) := rfl
theorem map_back {L : Rw} (u : Un L) (l : List (Int × Int)) : (l.map (ap L)).map (ap (rinv L)) = l := by
  rw [List.map_map]
  have : (ap (rinv L) ∘ ap L) = id := by
    funext p
    show ap (rinv L) (ap L p) = p
    rw [← ap_rmul, rmul_rinv L u, ap_id]
  rw [this, List.map_id]
theorem map_comp (K L : Rw) (l : List (Int × Int)) : (l.map (ap K)).map (ap L) = l.map (ap (rmul K L)) := by
  rw [List.map_map]
  congr 1
  funext p
  exact (ap_rmul K L p).symm
theorem mvOf_spec {p0 q0 : Int × Int} {l k : List (Int × Int)} (h : PtsOk (p0 :: l)) (h2 : PtsOk (q0 :: k)) (e : fH p0 l = fH q0 k) : Un (mvOf p0 q0 l k).1 ∧ Lb (mvOf p0 q0 l k).1 (10 ^ 140) ∧ (diff p0 l).map (ap (mvOf p0 q0 l k).1) = diff q0 k ∧ app (mvOf p0 q0 l k) p0 = q0 := by
  have u1 : Un (fL p0 l) := un_form _
  have u2 : Un (fL q0 k) := un_form _
  have hm : (diff p0 l).map (ap (mvOf p0 q0 l k).1) = diff q0 k := by
    show (diff p0 l).map (ap (rmul (fL p0 l) (rinv (fL q0 k)))) = _
    rw [← map_comp]
    have : (diff p0 l).map (ap (fL p0 l)) = (diff q0 k).map (ap (fL q0 k)) := rowsOf_eq.mp e
    rw [this, map_back u2]
  refine ⟨u1.mul (un_rinv u2), lead_lb (diff_le h) (diff_le h2) _ hm rfl, hm, ?_⟩
  rw [app_ap]
  unfold mvOf
  refine Prod.ext ?_ ?_ <;> (simp only; omega)
theorem move_in_ok {p0 q0 : Int × Int} {l k : List (Int × Int)} (h : PtsOk (p0 :: l)) (h2 : PtsOk (q0 :: k)) (e : fH p0 l = fH q0 k) : m_move_in ((p0 :: l).map P3) ((q0 :: k).map P3) = some (mvOf p0 q0 l k) := by
  obtain ⟨s1, s2, s3, s4⟩ := mvOf_spec h h2 e
  have l1 : Lb (fL p0 l) (10 ^ 200) := Mo.Lb.up (form_lb (diff_le h)) (by decide +kernel)
  have l2 : Lb (fL q0 k) (10 ^ 200) := Mo.Lb.up (form_lb (diff_le h2)) (by decide +kernel)
  have u2 : Un (fL q0 k) := un_form _
  have l3 := Mo.Lb.up s2 (show (10 : Int) ^ 140 ≤ 10 ^ 200 by decide +kernel)
  have hp := (h.2 p0 List.mem_cons_self).bb
  unfold m_move_in
  rw [form_ok h, Option.bind_some, form_ok h2, Option.bind_some, lead_read, Option.bind_some, lead_read, Option.bind_some, back_rows_ok u2 l2, Option.bind_some, led_rows_lb l1 (rinv_lb u2 l2), Option.bind_some, List.map_cons, ixO_0, Option.bind_some,
    led_in_ok (m := (rmul (fL p0 l) (rinv (fL q0 k)), (0, 0))) ⟨l3.1, l3.2.1, l3.2.2.1, l3.2.2.2, (show ab 0 ≤ 10 ^ 200 by decide +kernel), (show ab 0 ≤ 10 ^ 200 by decide +kernel)⟩ hp.1 hp.2, Option.bind_some, List.map_cons, ixO_0, Option.bind_some, Option.bind_some]
  unfold mvOf
  congr 1
  refine Prod.ext rfl (Prod.ext ?_ ?_)
  · show q0.1 - ((ap _ p0).1 + 0) = _
    rw [Int.add_zero]
  · show q0.2 - ((ap _ p0).2 + 0) = _
    rw [Int.add_zero]
/-! papers -/
abbrev eSM : Str × Mv → D := e_t2st2t2t2iit2iit2ii
abbrev eSU : Str × List (List Int) × List (List Int) → D := e_t3suuiuui
abbrev sMove : Str := Str.ofString "move"
abbrev sUnlike : Str := Str.ofString "unlike"
theorem eui_pl (l : List Int) : Pl (e_ui l) := by
  unfold e_ui
  refine ⟨plAll_map pl_int l, ?_⟩
  unfold PyData.depth
  have := depthAll_map (f := PyData.int) (n := 0) (fun p => by simp [PyData.depth]) l
  omega
theorem eui_inj (a b : List Int) (h : e_ui a = e_ui b) : a = b := by
  unfold e_ui at h
  exact map_inj (fun x y h => PyData.int.inj h) a b (PyData.tuple.inj h)
theorem euui_pl (l : List (List Int)) : Pl (e_uui l) := by
  unfold e_uui
  refine ⟨plAll_map (fun p => (eui_pl p).pl) l, ?_⟩
  unfold PyData.depth
  have := depthAll_map (f := e_ui) (n := 1) (fun p => by
    unfold e_ui PyData.depth
    have := depthAll_map (f := PyData.int) (n := 0) (fun p => by simp [PyData.depth]) p
    omega) l
  omega
theorem euui_inj (a b : List (List Int)) (h : e_uui a = e_uui b) : a = b := by
  unfold e_uui at h
  exact map_inj eui_inj a b (PyData.tuple.inj h)
theorem eq_uui (a b : List (List Int)) : eqO (e_uui a) (e_uui b) = some (decide (a = b)) := eqO_in euui_pl euui_inj a b
theorem same_move {p0 q0 : Int × Int} {l k : List (Int × Int)} (h : PtsOk (p0 :: l)) (h2 : PtsOk (q0 :: k)) (hl : l.length = k.length) (e : fH p0 l = fH q0 k) : m_same_paper ((p0 :: l).map P3) ((q0 :: k).map P3) = some (eSM (sMove, mvOf p0 q0 l k)) := by
  unfold m_same_paper
  rw [require_rows_ok h h2 hl, Option.bind_some, form_ok h, Option.bind_some, form_ok h2, Option.bind_some, eq_uui, Option.bind_some, iteT (by simpa using e), move_in_ok h h2 e]
  rfl
theorem same_unlike {p0 q0 : Int × Int} {l k : List (Int × Int)} (h : PtsOk (p0 :: l)) (h2 : PtsOk (q0 :: k)) (hl : l.length = k.length) (e : fH p0 l ≠ fH q0 k) : m_same_paper ((p0 :: l).map P3) ((q0 :: k).map P3) = some (eSU (sUnlike, fH p0 l, fH q0 k)) := by
  unfold m_same_paper
  rw [require_rows_ok h h2 hl, Option.bind_some, form_ok h, Option.bind_some, form_ok h2, Option.bind_some, eq_uui, Option.bind_some, iteF (by simpa using e)]
  rfl
theorem led_read (m : Mv) : u_d_t2t2t2iit2iit2ii (eM m) = some m := rfl
theorem str_eq (a b : Str) (ha : PyData.canLay0 (.str a) = true) (hb : PyData.canLay0 (.str b) = true) : eqO (.str a) (.str b) = some (decide (a = b)) := by
  have h : ∀ x : Str, PyData.depth (.str x) ≤ 64 := fun x => by simp [PyData.depth]
  haveI : Decidable (PyData.str a = PyData.str b) := if h : a = b then .isTrue (congrArg _ h) else .isFalse fun z => h (PyData.str.inj z)
  rw [eqO_pl ⟨by unfold pl; exact ha, h a⟩ ⟨by unfold pl; exact hb, h b⟩]
  congr 1
  rw [decide_eq_decide]
  exact ⟨fun z => PyData.str.inj z, fun z => congrArg _ z⟩
theorem sh_move : SeqAt.shaped (.str sMove) = true := by decide +kernel
theorem sh_unlike : SeqAt.shaped (.str sUnlike) = true := by decide +kernel
theorem is_same_move {p0 q0 : Int × Int} {l k : List (Int × Int)} {m : Mv} (h : PtsOk (p0 :: l)) (h2 : PtsOk (q0 :: k)) (hl : l.length = k.length) (hm : Good m) (e : (p0 :: l).map (app m) = q0 :: k) : m_is_same_paper ((p0 :: l).map P3) ((q0 :: k).map P3) (eSM (sMove, m)) = some true := by
  unfold m_is_same_paper
  have e0 : tupD (eSM (sMove, m)) = some [.str sMove, eM m] := rfl
  rw [require_rows_ok h h2 hl, Option.bind_some, iteF (by rfl), e0, Option.bind_some, iteF (by rfl), Option.bind_some, ixO_0, Option.bind_some, Option.bind_some, Option.bind_some, iteF (by rfl), Option.bind_some, iteT (by rfl), Option.bind_some, ixO_0, Option.bind_some, eqO_of sh_move (by rfl), Option.bind_some, iteT (by rfl), Option.bind_some, ixO_1, Option.bind_some, whole_ok hm, Option.bind_some, iteT (by rfl), Option.bind_some, ixO_1, Option.bind_some, led_read, Option.bind_some, do_lead_ok hm h.1 h.2 _ (by rw [e])]
  rfl
theorem form_like (l : List (List Int)) (h : l.length = 2) (h1 : ∀ x ∈ l, x.length ≤ 1000) : m_is_form_like (e_uui l) = some true := by
  match l, h with
  | [x, y], _ =>
    unfold m_is_form_like
    have e0 : tupD (e_uui [x, y]) = some [e_ui x, e_ui y] := rfl
    have e1 : ∀ z : List Int, mapO (fun (y20 : D) => some ((isi "int" y20) && (!(isi "bool" y20)))) (z.map PyData.int) = some (z.map fun _ => true) := fun z => mapO_map z fun i _ => rfl
    have e2 : map2O (fun (x14 : D) => (tupD x14).bind fun t18 => some t18) (fun (x14 : D) (y20 : D) => some ((isi "int" y20) && (!(isi "bool" y20)))) [e_ui x, e_ui y] = some ((x.map fun _ => true) ++ ((y.map fun _ => true) ++ [])) := by
      have et : ∀ z : List Int, tupD (e_ui z) = some (z.map PyData.int) := fun _ => rfl
      unfold map2O map2O map2O
      rw [et, et, Option.bind_some, Option.bind_some, e1, Option.bind_some, Option.bind_some, Option.bind_some, e1, Option.bind_some]
      rfl
    have hx := h1 x (by simp)
    have hy := h1 y (by simp)
    rw [iteF (by rfl), e0, Option.bind_some, iteF (by rfl), Option.bind_some, szO_ok (by exact Nat.le_of_ble_eq_true rfl), Option.bind_some]
    rw [show mapO (fun (x4 : D) => some (isi "tuple" x4)) [e_ui x, e_ui y] = some [true, true] from rfl, Option.bind_some, Option.bind_some, Option.bind_some, iteF (by rfl), Option.bind_some, e2, Option.bind_some, szO_ok (by simp; omega), Option.bind_some]
    simp
theorem fH_len (p0 : Int × Int) (l : List (Int × Int)) : (fH p0 l).length = 2 ∧ ∀ x ∈ fH p0 l, x.length = l.length := by
  refine ⟨rfl, fun x hx => ?_⟩
  unfold fH rowsOf row0 row1 diff at hx
  simp only [List.mem_cons, List.not_mem_nil, or_false] at hx
  rcases hx with rfl | rfl <;> simp
/-- the paper that two rows are unlike -/
theorem is_same_unlike {p0 q0 : Int × Int} {l k : List (Int × Int)} (f g : List (List Int)) (h : PtsOk (p0 :: l)) (h2 : PtsOk (q0 :: k)) (hl : l.length = k.length) (hf : f.length = 2 ∧ ∀ x ∈ f, x.length ≤ 1000) (hg : g.length = 2 ∧ ∀ x ∈ g, x.length ≤ 1000) : m_is_same_paper ((p0 :: l).map P3) ((q0 :: k).map P3) (eSU (sUnlike, f, g)) = some (decide (fH p0 l ≠ fH q0 k ∧ f = fH p0 l ∧ g = fH q0 k)) := by
  unfold m_is_same_paper
  have e0 : tupD (eSU (sUnlike, f, g)) = some [.str sUnlike, e_uui f, e_uui g] := rfl
  have e1 : cutD [.str sUnlike, e_uui f, e_uui g] (some 1) none = [e_uui f, e_uui g] := rfl
  have e3 : mapO (fun (x35 : D) => (m_is_form_like x35).bind fun t38 => some t38) [e_uui f, e_uui g] = some [true, true] := by
    unfold mapO mapO mapO
    rw [form_like f hf.1 hf.2, form_like g hg.1 hg.2]; rfl
  rw [require_rows_ok h h2 hl, Option.bind_some, iteF (by rfl), e0, Option.bind_some, iteF (by rfl), Option.bind_some, ixO_0, Option.bind_some, Option.bind_some, Option.bind_some, iteF (by rfl), Option.bind_some, iteF (by rfl), form_ok h, Option.bind_some, form_ok h2, Option.bind_some, Option.bind_some, ixO_0, Option.bind_some, eqO_of sh_unlike (by rfl), Option.bind_some, iteF (by rfl), eq_uui, Option.bind_some]
  by_cases z : fH p0 l = fH q0 k
  · rw [iteT (by simpa using z), Option.bind_some, Option.bind_some, iteT (by rfl), decide_eq_false (fun w => w.1 z)]
  · rw [iteF (by simpa using z), Option.bind_some, e1, show tupD (.tuple [e_uui f, e_uui g]) = some [e_uui f, e_uui g] from rfl, Option.bind_some, szO_ok (by exact Nat.le_of_ble_eq_true rfl), Option.bind_some, e3, Option.bind_some, Option.bind_some, Option.bind_some, iteF (by rfl), Option.bind_some]
    have e4 : eqO (e_t2uuiuui (f, g)) (e_t2uuiuui (fH p0 l, fH q0 k)) = some (decide ((f, g) = (fH p0 l, fH q0 k))) := by
      refine eqO_in (f := e_t2uuiuui) (fun x => ?_) (fun x y q => ?_) _ _
      · refine ⟨?_, ?_⟩
        · unfold e_t2uuiuui pl plAll plAll
          rw [(euui_pl x.1).pl, (euui_pl x.2).pl]; rfl
        · unfold e_t2uuiuui PyData.depth PyData.depthAll PyData.depthAll PyData.depthAll
          have d : ∀ l : List (List Int), PyData.depth (e_uui l) ≤ 2 := fun l => by
            unfold e_uui PyData.depth
            have := depthAll_map (f := e_ui) (n := 1) (fun p => by
              unfold e_ui PyData.depth
              have := depthAll_map (f := PyData.int) (n := 0) (fun p => by simp [PyData.depth]) p
              omega) l
            omega
          have := d x.1
          have := d x.2
          omega
      · unfold e_t2uuiuui at q
        simp only [PyData.tuple.injEq, List.cons.injEq, and_true] at q
        exact Prod.ext (euui_inj _ _ q.1) (euui_inj _ _ q.2)
    rw [e1]
    show ((eqO (e_t2uuiuui (f, g)) (e_t2uuiuui (fH p0 l, fH q0 k))).bind _) = _
    rw [e4]
    simp [z]
end Abs
namespace Abs
open PySem PySem.Spec PyProof.Rows L2 Mo
theorem sm_shear (n : Int) (sh : Int × Int) {q h : Int} (hn : ab n + 1 ≤ q) (h1 : ab sh.1 ≤ h) (h2 : ab sh.2 ≤ h) : Sm (((1, n), (0, 1)), sh) q h ∧ Sm (((1, 0), (n, 1)), sh) q h := by
  have a0 : ab 0 = 0 := rfl
  have a1 : ab 1 = 1 := rfl
  have nn := ab_nn n
  refine ⟨⟨.inl (by simp [det]), ⟨?_, ?_, h1, h2⟩, ⟨?_, ?_, ?_, ?_⟩⟩, ⟨.inl (by simp [det]), ⟨?_, ?_, h1, h2⟩, ⟨?_, ?_, ?_, ?_⟩⟩⟩
  · show ab 1 + ab n ≤ q; omega
  · show ab 0 + ab 1 ≤ q; omega
  · show ab ((1 * 1 - n * 0) * 1) + ab (-(1 * 1 - n * 0) * n) ≤ q
    rw [show (1 : Int) * 1 - n * 0 = 1 by omega, Int.neg_mul, Int.one_mul, Int.one_mul, ab_neg]; omega
  · show ab (-(1 * 1 - n * 0) * 0) + ab ((1 * 1 - n * 0) * 1) ≤ q
    rw [show (1 : Int) * 1 - n * 0 = 1 by omega, Int.mul_zero, Int.one_mul]; omega
  · show ab 0 ≤ 0; decide
  · show ab 0 ≤ 0; decide
  · show ab 1 + ab 0 ≤ q; omega
  · show ab n + ab 1 ≤ q; omega
  · show ab ((1 * 1 - 0 * n) * 1) + ab (-(1 * 1 - 0 * n) * 0) ≤ q
    rw [show (1 : Int) * 1 - 0 * n = 1 by omega, Int.mul_zero, Int.one_mul]; omega
  · show ab (-(1 * 1 - 0 * n) * n) + ab ((1 * 1 - 0 * n) * 1) ≤ q
    rw [show (1 : Int) * 1 - 0 * n = 1 by omega, Int.neg_mul, Int.one_mul, Int.one_mul, ab_neg]; omega
  · show ab 0 ≤ 0; decide
  · show ab 0 ≤ 0; decide
theorem sm_mirror (sh : Int × Int) {q h : Int} (hq : 1 ≤ q) (h1 : ab sh.1 ≤ h) (h2 : ab sh.2 ≤ h) : Sm (((0, 1), (1, 0)), sh) q h ∧ Sm (((1, 0), (0, 1)), sh) q h := by
  refine ⟨⟨.inr (by simp [det]), ⟨?_, ?_, h1, h2⟩, ⟨?_, ?_, ?_, ?_⟩⟩, ⟨.inl (by simp [det]), ⟨?_, ?_, h1, h2⟩, ⟨?_, ?_, ?_, ?_⟩⟩⟩ <;> first | exact hq | (show ab 0 ≤ 0; decide)
theorem step_ok (k n : Int) (sh : Int × Int) {q h : Int} (hk : 0 ≤ k) (hk2 : k < 4) (hn : ab n + 1 ≤ q) (h1 : ab sh.1 ≤ h) (h2 : ab sh.2 ≤ h) : ∃ s, m__law_step k n sh = some s ∧ Sm s q h := by
  have nn := ab_nn n
  have hs := sm_shear n sh hn h1 h2
  have hm := sm_mirror sh (show 1 ≤ q by omega) h1 h2
  unfold m__law_step
  rcases (show k = 0 ∨ k = 1 ∨ k = 2 ∨ k = 3 by omega) with rfl | rfl | rfl | rfl
  · exact ⟨_, rfl, hs.1⟩
  · exact ⟨_, rfl, hs.2⟩
  · exact ⟨_, rfl, hm.1⟩
  · exact ⟨_, rfl, hm.2⟩
/-- a drawn row of steps -/
structure Row (l : List Mv) (q h : Int) : Prop where
  sm : ∀ s ∈ l, Sm s q h
  q2 : 2 ≤ q
  h0 : 0 ≤ h
theorem rg_len (n : Int) (h0 : 0 ≤ n) (h : n ≤ 1000) : ∃ t, rgO n = some t ∧ (t.length : Int) = n ∧ szO t = some t ∧ ∀ x ∈ t, 0 ≤ x ∧ x < n := by
  have e := rgO_ok n.toNat (by omega)
  rw [show ((n.toNat : Nat) : Int) = n by omega] at e
  refine ⟨_, e, by rw [List.length_map, List.length_range]; omega, szO_ok (by rw [List.length_map, List.length_range]; omega), fun x hx => ?_⟩
  obtain ⟨i, hi, rfl⟩ := List.mem_map.mp hx
  have := List.mem_range.mp hi
  omega
theorem drawn_ok (d : Dice) (hd : DiceOk d) : ∃ p, m__law_drawn d = some p ∧ DiceOk p.2 ∧ ∃ q h, Row p.1 q h ∧ 1 ≤ p.1.length ∧ p.1.length ≤ 40 ∧ q ^ p.1.length ≤ 10 ^ 36 ∧ q ≤ 10 ^ 9 ∧ h ≤ 98 := by
  unfold m__law_drawn
  obtain ⟨p1, e1, a1, b1, c1⟩ := roll_ok d 2 hd (by decide) (by decide +kernel)
  rw [e1, Option.bind_some]
  by_cases z : p1.1 = 0
  · rw [iteT (by simpa using z)]
    obtain ⟨p3, e3, a3, b3, c3⟩ := roll_ok p1.2 40 c1 (by decide) (by decide +kernel)
    obtain ⟨t, e4, l4, s4, _⟩ := rg_len (1 + p3.1) (by omega) (by omega)
    obtain ⟨r, e5, l5, q5, d5⟩ := mapS_ok (m := (fun (x6 : Int) (d7 : Dice) => (m__law_roll d7 4).bind fun p10 => (m__law_roll p10.2 2).bind fun p11 => (mulO 2 p11.1).bind fun t12 => (m__law_roll p11.2 3).bind fun p13 => (m__law_roll p13.2 3).bind fun p14 => (m__law_step p10.1 (1 - t12) ((p13.1 - 1), (p14.1 - 1))).bind fun t15 => some (t15, p14.2))) DiceOk (fun s : Mv => Sm s 2 1) t (fun x _ d7 h7 => by
      obtain ⟨p10, e10, a10, b10, c10⟩ := roll_ok d7 4 h7 (by decide) (by decide +kernel)
      obtain ⟨p11, e11, a11, b11, c11⟩ := roll_ok p10.2 2 c10 (by decide) (by decide +kernel)
      obtain ⟨p13, e13, a13, b13, c13⟩ := roll_ok p11.2 3 c11 (by decide) (by decide +kernel)
      obtain ⟨p14, e14, a14, b14, c14⟩ := roll_ok p13.2 3 c13 (by decide) (by decide +kernel)
      obtain ⟨s, es, hs⟩ := step_ok p10.1 (1 - 2 * p11.1) ((p13.1 - 1), (p14.1 - 1)) (q := 2) (h := 1) a10 b10 (by unfold ab; omega) (by unfold ab; simp only; omega) (by unfold ab; simp only; omega)
      rw [e10, Option.bind_some, e11, Option.bind_some, mulO_ok (by decide +kernel) (by decide +kernel) (by unfold BB; omega) (by unfold BB; omega), Option.bind_some, e13, Option.bind_some, e14, Option.bind_some, es]
      exact ⟨_, rfl, hs, c14⟩) p3.2 c3
    rw [e3, Option.bind_some, e4, Option.bind_some, s4, Option.bind_some, e5, Option.bind_some]
    have hl : r.1.length ≤ 40 := by omega
    refine ⟨_, rfl, d5, 2, 1, ⟨q5, by decide, by decide⟩, (by simp only; omega), hl, ?_, by decide +kernel, by decide⟩
    show (2 : Int) ^ r.1.length ≤ 10 ^ 36
    have : (2 : Nat) ^ r.1.length ≤ 2 ^ 40 := Nat.pow_le_pow_right (by decide) hl
    have h2 : ((2 ^ r.1.length : Nat) : Int) ≤ ((2 ^ 40 : Nat) : Int) := Int.ofNat_le.mpr this
    rw [Int.natCast_pow] at h2
    exact Int.le_trans h2 (by decide +kernel)
  · rw [iteF (by simpa using z)]
    obtain ⟨p3, e3, a3, b3, c3⟩ := roll_ok p1.2 3 c1 (by decide) (by decide +kernel)
    obtain ⟨t, e4, l4, s4, _⟩ := rg_len (2 + p3.1) (by omega) (by omega)
    obtain ⟨r, e5, l5, q5, d5⟩ := mapS_ok (m := (fun (x20 : Int) (d21 : Dice) => (modO x20 2).bind fun t24 => (m__law_roll d21 1000000000).bind fun p25 => (m__law_roll p25.2 99).bind fun p26 => (m__law_roll p26.2 99).bind fun p27 => (m__law_step t24 (p25.1 - 100000000) (p26.1, (0 - p27.1))).bind fun t28 => some (t28, p27.2))) DiceOk (fun s : Mv => Sm s (10 ^ 9) 98) t (fun x _ d7 h7 => by
      obtain ⟨p10, e10, a10, b10, c10⟩ := roll_ok d7 1000000000 h7 (by decide) (by decide +kernel)
      obtain ⟨p11, e11, a11, b11, c11⟩ := roll_ok p10.2 99 c10 (by decide) (by decide +kernel)
      obtain ⟨p13, e13, a13, b13, c13⟩ := roll_ok p11.2 99 c11 (by decide) (by decide +kernel)
      have m0 := Int.emod_nonneg x (show (2 : Int) ≠ 0 by decide)
      have m1 := Int.emod_lt_of_pos x (show (0 : Int) < 2 by decide)
      obtain ⟨s, es, hs⟩ := step_ok (x % 2) (p10.1 - 100000000) (p11.1, 0 - p13.1) (q := 10 ^ 9) (h := 98) m0 (by omega) (by unfold ab; omega) (by unfold ab; simp only; omega) (by unfold ab; simp only; omega)
      rw [modO_ok (by decide), Option.bind_some, e10, Option.bind_some, e11, Option.bind_some, e13, Option.bind_some, es]
      exact ⟨_, rfl, hs, c13⟩) p3.2 c3
    rw [e3, Option.bind_some, e4, Option.bind_some, s4, Option.bind_some, e5, Option.bind_some]
    have hl : r.1.length ≤ 4 := by omega
    refine ⟨_, rfl, d5, 10 ^ 9, 98, ⟨q5, by decide +kernel, by decide⟩, (by simp only; omega), (by simp only; omega), ?_, by decide +kernel, by decide⟩
    rcases (show r.1.length = 0 ∨ r.1.length = 1 ∨ r.1.length = 2 ∨ r.1.length = 3 ∨ r.1.length = 4 by omega) with e | e | e | e | e <;> rw [e] <;> decide +kernel
theorem backl_fold (l : List Mv) : l.reverse.foldl (fun acc s => acc ++ back1 s) [] = backl l := by
  induction l with
  | nil => rfl
  | cons s l ih =>
    rw [List.reverse_cons, List.foldl_append, ih]
    rfl
theorem back1_len (s : Mv) : (back1 s).length = 2 := rfl
theorem back_ok {l : List Mv} {q h : Int} (hr : ∀ s ∈ l, Sm s q h) (hq : q ≤ 10 ^ 9) (hl : l.length ≤ 1000) : m__law_back l = some (backl l) := by
  have key : ∀ (r acc : List Mv), (∀ s ∈ r, Sm s q h) → acc.length + 2 * r.length ≤ 2000 → forS (fun (x2 : Mv) (s1 : List Mv) => (mulO x2.1.1.1 x2.1.2.2).bind fun t5 => (mulO x2.1.1.2 x2.1.2.1).bind fun t6 => (mulO (t5 - t6) x2.1.2.2).bind fun t7 => (mulO (t5 - t6) x2.1.1.2).bind fun t8 => (mulO (t5 - t6) x2.1.2.1).bind fun t9 => (mulO (t5 - t6) x2.1.1.1).bind fun t10 => (appO s1 (((1, 0), (0, 1)), ((0 - x2.2.1), (0 - x2.2.2)))).bind fun t11 => (appO t11 (((t7, (0 - t8)), ((0 - t9), t10)), (0, 0))).bind fun t12 => some t12) r acc = some (r.foldl (fun acc s => acc ++ back1 s) acc) := by
    intro r
    induction r with
    | nil => exact fun acc _ _ => rfl
    | cons s r ih =>
      intro acc hs ha
      rw [List.length_cons] at ha
      obtain ⟨u, ⟨n1, n2, _, _⟩, _⟩ := hs s List.mem_cons_self
      have p1 := ab_nn s.1.1.1; have p2 := ab_nn s.1.1.2; have p3 := ab_nn s.1.2.1; have p4 := ab_nn s.1.2.2
      have b1 : ab s.1.1.1 ≤ 10 ^ 200 := by omega
      have b2 : ab s.1.1.2 ≤ 10 ^ 200 := by omega
      have b3 : ab s.1.2.1 ≤ 10 ^ 200 := by omega
      have b4 : ab s.1.2.2 ≤ 10 ^ 200 := by omega
      have bd : ab (det s.1) ≤ 10 ^ 200 := by rcases u with e | e <;> rw [e] <;> decide +kernel
      have hd : s.1.1.1 * s.1.2.2 - s.1.1.2 * s.1.2.1 = det s.1 := rfl
      unfold forS
      rw [mul_ab b1 b4, Option.bind_some, mul_ab b2 b3, Option.bind_some, hd, mul_ab bd b4, Option.bind_some, mul_ab bd b2, Option.bind_some, mul_ab bd b3, Option.bind_some, mul_ab bd b1, Option.bind_some, appO_ok (by omega), Option.bind_some, appO_ok (by rw [List.length_append]; simp only [List.length_cons, List.length_nil]; omega), Option.bind_some, Option.bind_some]
      have e : acc ++ [((((1, 0), (0, 1)), (0 - s.2.1, 0 - s.2.2)) : Mv)] ++ [(((det s.1 * s.1.2.2, 0 - det s.1 * s.1.1.2), (0 - det s.1 * s.1.2.1, det s.1 * s.1.1.1)), (0, 0))] = acc ++ back1 s := by
        unfold back1 rinv
        rw [List.append_assoc, Int.zero_sub, Int.zero_sub, Int.zero_sub, Int.zero_sub, Int.neg_mul, Int.neg_mul]
        rfl
      rw [e, ih (acc ++ back1 s) (fun x hx => hs x (List.mem_cons_of_mem _ hx)) (by rw [List.length_append, back1_len]; omega)]
      rfl
  unfold m__law_back
  have h1 := key l.reverse [] (fun s hs => hr s (List.mem_reverse.mp hs)) (by rw [List.length_reverse, List.length_nil]; omega)
  rw [backl_fold] at h1
  refine Eq.trans (congrArg (fun o => Option.bind o _) h1) ?_
  rfl
/-- Euclid's steps as the mirror takes them -/
abbrev US := Int × Int × Int × Int × List Mv
def uBody : US → Option US := fun s2 => (if (decide (s2.2.2.1 ≠ 0)) = true then ((fdivO s2.1 s2.2.2.1).bind fun t7 => (mulO t7 s2.2.2.1).bind fun t8 => (mulO t7 s2.2.2.2.1).bind fun t9 => (m__law_step 0 (0 - t7) (0, 0)).bind fun t10 => (appO s2.2.2.2.2 t10).bind fun t11 => (m__law_step 2 0 (0, 0)).bind fun t12 => (appO t11 t12).bind fun t13 => some (s2.2.2.1, s2.2.2.2.1, (s2.1 - t8), (s2.2.1 - t9), t13)) else (some (s2.1, s2.2.1, s2.2.2.1, s2.2.2.2.1, s2.2.2.2.2)) : Option US).bind fun j6 => some (j6.1, j6.2.1, j6.2.2.1, j6.2.2.2.1, j6.2.2.2.2)
def uenc (r : Rw) (l : List Mv) : US := (r.1.1, r.1.2, r.2.1, r.2.2, l)
theorem step0 (n : Int) : m__law_step 0 n (0, 0) = some (((1, n), (0, 1)), (0, 0)) := rfl
theorem step2 (n : Int) : m__law_step 2 n (0, 0) = some swap := rfl
theorem und_loop : ∀ (xs : List Int) (r : Rw) (acc : List Mv) (A B : Int), Un r → A ≤ 10 ^ 100 → 0 ≤ A → ab r.1.1 ≤ A → ab r.2.1 ≤ A → ab r.1.2 ≤ B → ab r.2.2 ≤ B + 1 → B + 1 + xs.length ≤ 10 ^ 100 → acc.length + 2 * xs.length ≤ 2000 →
    forS (fun (_ : Int) (s : US) => uBody s) xs (uenc r acc) = some (uenc (eucR xs.length r) (acc ++ eucL xs.length r))
  | [], r, acc, A, B, _, _, _, _, _, _, _, _, _ => by
    show some (uenc r acc) = some (uenc r (acc ++ []))
    rw [List.append_nil]
  | x :: xs, r, acc, A, B, u, hA, hA0, a1, a2, b1, b2, hB, hl => by
    have nn1 := ab_nn r.1.2
    rw [List.length_cons] at hB hl ⊢
    unfold forS
    by_cases z : r.2.1 = 0
    · have hb : uBody (uenc r acc) = some (uenc r acc) := by
        unfold uBody uenc
        rw [iteF (by simpa using z)]; rfl
      rw [hb, Option.bind_some, und_loop xs r acc A B u hA hA0 a1 a2 b1 b2 (by omega) (by omega)]
      have e1 : eucR (xs.length + 1) r = eucR xs.length r := by rw [eucR_stop z, eucR_stop z]
      have e2 : eucL (xs.length + 1) r = eucL xs.length r := by
        have : ∀ n, eucL n r = [] := fun n => by
          cases n with
          | zero => rfl
          | succ n => unfold eucL; rw [if_pos z]
        rw [this, this]
      rw [e1, e2]
    · have hf := fdiv_ab r.1.1 r.2.1 z
      have hb : uBody (uenc r acc) = some (uenc (nxt r) (acc ++ [shear (r.1.1.fdiv r.2.1), swap])) := by
        unfold uBody uenc
        rw [iteT (by simpa using z)]
        simp only []
        rw [fdivO_ok z (by unfold BB ab at *; omega) (by unfold BB ab at *; omega), Option.bind_some, mul_ab (by omega) (by omega), Option.bind_some, mul_ab (by omega) (by omega), Option.bind_some, step0, Option.bind_some, appO_ok (by omega), Option.bind_some, step2, Option.bind_some, appO_ok (by rw [List.length_append]; simp only [List.length_cons, List.length_nil]; omega), Option.bind_some, Option.bind_some, List.append_assoc]
        rfl
      have hd : ab (r.1.1 * r.2.2 - r.2.1 * r.1.2) ≤ 1 := by
        have : r.1.1 * r.2.2 - r.2.1 * r.1.2 = det r := by unfold det; grind
        rw [this]
        rcases u with e | e <;> rw [e] <;> decide
      have k1 := cross_le z hd b2 (by decide)
      have u2 : Un (nxt r) := by
        have : det (nxt r) = -(det r) := by unfold nxt det; grind
        unfold Mo.Un at *; omega
      have hlow := fmod_lt (a := r.1.1) z
      have hlow2 : ab (nxt r).2.1 ≤ A := by rw [nxt_low]; unfold ab at *; omega
      rw [hb, Option.bind_some, und_loop xs (nxt r) _ A (B + 1) u2 hA hA0 a2 hlow2 b2 k1 (by omega) (by rw [List.length_append]; simp only [List.length_cons, List.length_nil]; omega)]
      have e1 : eucR (xs.length + 1) r = eucR xs.length (nxt r) := by
        show (if r.2.1 = 0 then r else eucR xs.length (nxt r)) = _
        rw [if_neg z]
      have e2 : eucL (xs.length + 1) r = shear (r.1.1.fdiv r.2.1) :: swap :: eucL xs.length (nxt r) := by
        show (if r.2.1 = 0 then [] else _) = _
        rw [if_neg z]
      rw [e1, e2, List.append_assoc]
      rfl
theorem undone_ok {m : Mv} {A : Int} (u : Un m.1) (hA : A ≤ 10 ^ 90) (a1 : ab m.1.1.1 ≤ A) (a2 : ab m.1.2.1 ≤ A) (a3 : ab m.1.1.2 ≤ A) (a4 : ab m.1.2.2 ≤ A) : m__law_undone m = some (undL m.1) ∧ (undL m.1).length ≤ 1000 := by
  have nn1 := ab_nn m.1.1.1
  obtain ⟨t, e, hl, _, _⟩ := rg_len 400 (by decide) (by decide)
  have h400 : t.length = 400 := by omega
  have hw := und_loop t m.1 [] A A u (by omega) (by omega) a1 a2 a3 (by omega) (by omega) (by simp only [List.length_nil]; omega)
  rw [h400, List.nil_append] at hw
  have hlen := eucL_len 400 m.1
  have hT : (undT (eucR 400 m.1)).length ≤ 3 := by
    unfold undT
    split <;> split <;> simp
  refine ⟨?_, by unfold undL; rw [List.length_append]; omega⟩
  unfold m__law_undone
  rw [e, Option.bind_some]
  refine Eq.trans (congrArg (fun o => Option.bind o _) (show forS (fun (_ : Int) (s : US) => uBody s) t (uenc m.1 []) = _ from hw)) ?_
  rw [Option.bind_some]
  unfold undL undT uenc b2
  generalize eucR 400 m.1 = r at *
  generalize eucL 400 m.1 = el at *
  simp only []
  by_cases c1 : r.1.1 < 0
  · rw [iteT (by simpa using c1), appO_ok (by omega), Option.bind_some, Option.bind_some, if_pos c1]
    by_cases c2 : r.2.2 < 0
    · rw [iteT (by simpa using c2), appO_ok (by rw [List.length_append]; simp only [List.length_cons, List.length_nil]; omega), Option.bind_some, Option.bind_some, step0, Option.bind_some, catO_ok2 (by simp only [List.length_append, List.length_cons, List.length_nil]; omega), Option.bind_some, if_pos c2, if_pos c1]
      simp only [List.append_assoc]
      rfl
    · rw [iteF (by simpa using c2), Option.bind_some, step0, Option.bind_some, catO_ok2 (by simp only [List.length_append, List.length_cons, List.length_nil]; omega), Option.bind_some, if_neg c2, if_pos c1]
      simp only [List.append_assoc]
      rfl
  · rw [iteF (by simpa using c1), Option.bind_some, if_neg c1]
    by_cases c2 : r.2.2 < 0
    · rw [iteT (by simpa using c2), appO_ok (by simp only; omega), Option.bind_some, Option.bind_some, step0, Option.bind_some, catO_ok2 (by simp only [List.length_append, List.length_cons, List.length_nil]; omega), Option.bind_some, if_pos c2, if_neg c1]
      simp only [List.append_assoc]
      rfl
    · rw [iteF (by simpa using c2), Option.bind_some, step0, Option.bind_some, catO_ok2 (by simp only [List.length_append, List.length_cons, List.length_nil]; omega), Option.bind_some, if_neg c2, if_neg c1]
      rfl
end Abs
namespace Abs
open PySem PySem.Spec PyProof.Rows L2 Mo
theorem pow_pos' {q : Int} (h : 1 ≤ q) : ∀ n : Nat, 1 ≤ q ^ n
  | 0 => by rw [Int.pow_zero]; exact Int.le_refl 1
  | n + 1 => by
    rw [Int.pow_succ]
    have := pow_pos' h n
    have := le_mulL h (show 0 ≤ q ^ n by omega)
    rw [Int.mul_comm]
    omega
/-- what the closed form of a shift's growth comes to -/
theorem grow {q h H K H0 S : Int} (q2 : 2 ≤ q) (h0 : 0 ≤ h) (hH : 0 ≤ H) (e : (q - 1) * H + h = K * S) (hK : K ≤ 10 ^ 36) (hS : 0 ≤ S) : H ≤ 10 ^ 36 * S := by
  have h1 : H ≤ (q - 1) * H := le_mulL (by omega) hH
  have h2 : K * S ≤ 10 ^ 36 * S := Int.mul_le_mul_of_nonneg_right hK hS
  omega
theorem row_fw {l : List Mv} {q h : Int} (r : Row l q h) (hq : q ≤ 10 ^ 9) (hh : h ≤ 98) (hK : q ^ l.length ≤ 10 ^ 36) : (∃ H, Ch 1 0 l (q ^ l.length) H ∧ H ≤ 10 ^ 38) ∧ (∃ H, Ch 1 9 l (q ^ l.length) H ∧ H ≤ 10 ^ 47) ∧ (∃ H, Ch 1 0 (backl l) (q ^ l.length) H ∧ H ≤ 10 ^ 47) := by
  obtain ⟨sm, q2, h0⟩ := r
  have u1 := ch_unif (show 1 ≤ q by omega) h0 l (fun s hs => ⟨(sm s hs).1, (sm s hs).2.1⟩) 1
  have u2 := ch_back (show 1 ≤ q by omega) h0 l sm 1 0
  rw [Int.mul_one] at u1 u2
  obtain ⟨H1, c1, e1⟩ := u1 0
  obtain ⟨H2, c2, e2⟩ := u1 9
  obtain ⟨H3, c3, e3⟩ := u2
  have m1 := (c1.mono (by decide) (by decide)).2
  have m2 := (c2.mono (by decide) (by decide)).2
  have m3 := (c3.mono (by decide) (by decide)).2
  have hqh : 0 ≤ q * h := Int.mul_nonneg (by omega) h0
  have hqh2 : q * h ≤ 10 ^ 9 * 98 := Int.mul_le_mul hq hh h0 (by decide +kernel)
  refine ⟨⟨H1, c1, ?_⟩, ⟨H2, c2, ?_⟩, ⟨H3, c3, ?_⟩⟩
  · have := grow (H0 := 0) q2 h0 m1 e1 hK (by omega)
    omega
  · have := grow (H0 := 0) q2 h0 (by omega) e2 hK (by omega)
    omega
  · have := grow (H0 := 0) (h := q * h) q2 hqh m3 e3 hK (by omega)
    omega
theorem nm_one {H : Int} (h : 0 ≤ H) : Nm one 1 H := ⟨by decide, by decide, by show ab 0 ≤ H; exact h, by show ab 0 ≤ H; exact h⟩
theorem nm_good {m : Mv} {Q H : Int} (u : Un m.1) (n : Nm m Q H) (hQ : Q ≤ G) (hH : H ≤ G) : Good m := ⟨u, n.le hQ hH⟩
/-- points led by all steps, one behind the other -/
theorem led_run {Q H Q' H' : Int} {l : List Mv} (c : Ch Q H l Q' H') : 1 ≤ Q → 0 ≤ H → Q' ≤ G → H' ≤ G → ∀ (pts : List (Int × Int)), 0 < pts.length → pts.length ≤ 40 → (∀ p ∈ pts, ab p.1 ≤ H ∧ ab p.2 ≤ H) →
    forS (fun (x22 : Mv) (s21 : List (Int × Int × Int)) => (m_led x22 s21).bind fun t25 => some t25) l (pts.map P3) = some ((pts.map (app (prod l one))).map P3) ∧ ∀ p ∈ pts.map (app (prod l one)), ab p.1 ≤ H' ∧ ab p.2 ≤ H' := by
  induction c with
  | nil =>
    intro _ _ _ _ pts _ _ hp
    have e : pts.map (app (prod [] one)) = pts := by
      have : app (prod [] one) = id := by
        funext p
        show (1 * p.1 + 0 * p.2 + 0, 0 * p.1 + 1 * p.2 + 0) = p
        simp
      rw [this, List.map_id]
    rw [e]
    exact ⟨rfl, hp⟩
  | @cons Q H Q' H' q h s l h1 h2 h3 h4 h5 ih =>
    intro q1 q2 g1 g2 pts l0 l40 hp
    have a := le_mulL h1 (show 0 ≤ Q by omega)
    have b := le_mulL h1 q2
    have a2 : q ≤ q * Q := by
      have := Int.mul_le_mul_of_nonneg_left q1 (show 0 ≤ q by omega)
      omega
    obtain ⟨x, y⟩ := h5.mono (by omega) (by omega)
    have hs : Good s := ⟨h3, h4.le (by omega) (by omega)⟩
    obtain ⟨n1, n2, n3, n4⟩ := h4
    have hp2 : ∀ p ∈ pts.map (app s), ab p.1 ≤ q * H + h ∧ ab p.2 ≤ q * H + h := fun p hp' => by
      obtain ⟨p0, h0, rfl⟩ := List.mem_map.mp hp'
      obtain ⟨b1, b2⟩ := hp p0 h0
      have e1 := lin2 _ _ _ _ _ _ n1 b1 b2
      have e2 := lin2 _ _ _ _ _ _ n2 b1 b2
      have e3 := ab_add (s.1.1.1 * p0.1 + s.1.1.2 * p0.2) s.2.1
      have e4 := ab_add (s.1.2.1 * p0.1 + s.1.2.2 * p0.2) s.2.2
      exact ⟨by show ab (s.1.1.1 * p0.1 + s.1.1.2 * p0.2 + s.2.1) ≤ _; omega, by show ab (s.1.2.1 * p0.1 + s.1.2.2 * p0.2 + s.2.2) ≤ _; omega⟩
    obtain ⟨r1, r2⟩ := ih (by omega) (by omega) g1 g2 (pts.map (app s)) (by rw [List.length_map]; exact l0) (by rw [List.length_map]; exact l40) hp2
    have e : (pts.map (app s)).map (app (prod l one)) = pts.map (app (prod (s :: l) one)) := by
      rw [List.map_map]
      congr 1
      funext p
      show app (prod l one) (app s p) = app (prod l (mul one s)) p
      rw [prod_eq l (mul one s), one_mul, app_mul]
    rw [e] at r1 r2
    refine ⟨?_, r2⟩
    unfold forS
    rw [led_ok hs l0 l40 (fun p hp' => ⟨Int.le_trans (hp p hp').1 (by omega), Int.le_trans (hp p hp').2 (by omega)⟩)]
    exact r1
theorem as_pts (l : List (Int × Int × Int)) (h : ∀ y ∈ l, ∃ p : Int × Int, y = P3 p ∧ ab p.1 ≤ 9 ∧ ab p.2 ≤ 9) : ∃ k : List (Int × Int), l = k.map P3 ∧ k.length = l.length ∧ ∀ p ∈ k, ab p.1 ≤ 9 ∧ ab p.2 ≤ 9 := by
  induction l with
  | nil => exact ⟨[], rfl, rfl, fun p hp => by simp at hp⟩
  | cons y l ih =>
    obtain ⟨k, e, el, hk⟩ := ih (fun z hz => h z (List.mem_cons_of_mem _ hz))
    obtain ⟨p, rfl, hp⟩ := h y List.mem_cons_self
    refine ⟨p :: k, by rw [List.map_cons, e], by simp [el], fun z hz => ?_⟩
    rcases List.mem_cons.mp hz with rfl | hz
    · exact hp
    · exact hk z hz
theorem places_ok (d : Dice) (hd : DiceOk d) (t : List Int) (ht : t.length = 3) : ∃ q, mapS (fun (x4 : Int) (d5 : Dice) => (m__law_roll d5 19).bind fun p8 => (m__law_roll p8.2 19).bind fun p9 => some (((p8.1 - 9), (p9.1 - 9), (1 : Int)), p9.2)) t d = some q ∧ DiceOk q.2 ∧ ∃ p0 l, q.1 = (p0 :: l).map P3 ∧ l.length = 2 ∧ ∀ p ∈ p0 :: l, ab p.1 ≤ 9 ∧ ab p.2 ≤ 9 := by
  obtain ⟨r, e, l1, q1, d1⟩ := mapS_ok (m := (fun (x4 : Int) (d5 : Dice) => (m__law_roll d5 19).bind fun p8 => (m__law_roll p8.2 19).bind fun p9 => some (((p8.1 - 9), (p9.1 - 9), (1 : Int)), p9.2))) DiceOk (fun y => ∃ p : Int × Int, y = P3 p ∧ ab p.1 ≤ 9 ∧ ab p.2 ≤ 9) t (fun x _ d5 h5 => by
    obtain ⟨p8, e8, a8, b8, c8⟩ := roll_ok d5 19 h5 (by decide) (by decide +kernel)
    obtain ⟨p9, e9, a9, b9, c9⟩ := roll_ok p8.2 19 c8 (by decide) (by decide +kernel)
    rw [e8, Option.bind_some, e9]
    exact ⟨_, rfl, ⟨(p8.1 - 9, p9.1 - 9), rfl, by unfold ab; simp only; omega, by unfold ab; simp only; omega⟩, c9⟩) d hd
  obtain ⟨k, hk, hl, hb⟩ := as_pts r.1 q1
  match k, hl with
  | [], hl => rw [l1, ht] at hl; simp at hl
  | p0 :: l, hl =>
    refine ⟨r, e, d1, p0, l, hk, ?_, hb⟩
    rw [l1, ht] at hl
    simpa using hl
theorem eM_sh (m : Mv) : SeqAt.shaped (eM m) = true := (eM_pl m).sh
theorem eSM_pl (m : Mv) : Pl (eSM (sMove, m)) := by
  refine ⟨?_, ?_⟩
  · have h1 : pl (.str sMove) = true := by decide +kernel
    have h2 := (eM_pl m).pl
    show (pl (.str sMove) && (pl (eM m) && true)) = true
    rw [h1, h2]; rfl
  · unfold eSM e_t2st2t2t2iit2iit2ii e_t2t2t2iit2iit2ii e_t2t2iit2ii e_t2ii
    simp [PyData.depth, PyData.depthAll]
theorem eSM_sh (m : Mv) : SeqAt.shaped (eSM (sMove, m)) = true := (eSM_pl m).sh
def tri0 : List (Int × Int) := [(0, 0), (1, 0), (0, 1)]
theorem tri_same {m : Mv} (hm : Good m) (h : ∀ p ∈ tri0, PtOk (app m p)) : m_same_paper (tri0.map P3) ((tri0.map (app m)).map P3) = some (eSM (sMove, m)) := by
  have hd : diff (0, 0) [(1, 0), (0, 1)] = [(1, 0), (0, 1)] := by simp [diff]
  have hP : PtsOk ((0, 0) :: [(1, 0), (0, 1)]) := ⟨by decide, fun p hp => by
    simp only [List.mem_cons, List.not_mem_nil, or_false] at hp
    rcases hp with rfl | rfl | rfl <;> exact ⟨by decide, by decide⟩⟩
  have hQ : PtsOk (app m (0, 0) :: [app m (1, 0), app m (0, 1)]) := ⟨by simp, fun p hp => by
    simp only [List.mem_cons, List.not_mem_nil, or_false] at hp
    rcases hp with rfl | rfl | rfl <;> exact h _ (by simp [tri0])⟩
  have hV : (diff (0, 0) [(1, 0), (0, 1)]).map (ap m.1) = diff (app m (0, 0)) [app m (1, 0), app m (0, 1)] := by
    rw [hd]
    unfold diff ap app
    simp only [List.map_cons, List.map_nil]
    congr 1
    · refine Prod.ext ?_ ?_ <;> simp only <;> omega
    · congr 1
      refine Prod.ext ?_ ?_ <;> simp only <;> omega
  have hf : fH (0, 0) [(1, 0), (0, 1)] = fH (app m (0, 0)) [app m (1, 0), app m (0, 1)] := (fH_iff hP hQ).mpr ⟨m.1, hm.un, hV⟩
  have e := same_move hP hQ rfl hf
  obtain ⟨s1, s2, s3, s4⟩ := mvOf_spec hP hQ hf
  have hmv : mvOf (0, 0) (app m (0, 0)) [(1, 0), (0, 1)] [app m (1, 0), app m (0, 1)] = m := by
    generalize mvOf (0, 0) (app m (0, 0)) [(1, 0), (0, 1)] [app m (1, 0), app m (0, 1)] = w at *
    rw [← hV, hd] at s3
    simp only [List.map_cons, List.map_nil, List.cons.injEq, and_true] at s3
    have hr : w.1 = m.1 := rank2_eq (c := (1, 0)) (d := (0, 1)) (by decide) s3.1 s3.2
    refine Prod.ext hr ?_
    unfold app at s4
    rw [hr] at s4
    simp only [Int.mul_zero, Int.zero_add, Int.add_zero, Prod.mk.injEq] at s4
    exact Prod.ext s4.1 s4.2
  rw [hmv] at e
  exact e
theorem word_ok (d : Dice) (hd : DiceOk d) : ∃ p, m__law_word_right d = some p ∧ p.1 = true ∧ DiceOk p.2 := by
  unfold m__law_word_right
  obtain ⟨p1, e1, d1, q, h, row, l1, l40, hK, hq, hh⟩ := drawn_ok d hd
  obtain ⟨⟨H1, c1, b1⟩, ⟨H2, c2, b2⟩, ⟨H3, c3, b3⟩⟩ := row_fw row hq hh hK
  have hK' : q ^ p1.1.length ≤ G := by unfold G; omega
  obtain ⟨r1, n1, u1⟩ := c1.run (m := one) (by decide) (by decide) un_one (nm_one (by decide)) hK' (by unfold G; omega)
  obtain ⟨r3, n3, u3⟩ := c3.run (m := one) (by decide) (by decide) un_one (nm_one (by decide)) hK' (by unfold G; omega)
  have hsm : ∀ s ∈ p1.1, Mo.Un s.1 := fun s hs => (row.sm s hs).1
  have bl := backl_left p1.1 hsm
  have br := backl_right p1.1 hsm
  have gm := nm_good u1 n1 hK' (by unfold G; omega)
  have gb := nm_good u3 n3 hK' (by unfold G; omega)
  obtain ⟨t, e2, lt, st, _⟩ := rg_len 3 (by decide) (by decide)
  obtain ⟨pl, ep, dp, p0, ps, hps, lps, bps⟩ := places_ok p1.2 d1 t (by omega)
  obtain ⟨p12, e12, a12, b12, c12⟩ := roll_ok pl.2 ((p1.1.length : Int) + 1) dp (by omega) (by unfold BB; omega)
  rw [e1, Option.bind_some, e2, Option.bind_some, st, Option.bind_some, ep, Option.bind_some, made_ok r1, Option.bind_some, e12, Option.bind_some]
  generalize hm : prod p1.1 one = m at *
  generalize hb : prod (backl p1.1) one = b at *
  rw [show m_is_whole_move (e_t2t2t2iit2iit2ii m) = some true by unfold m_is_whole_move; rw [whole_ok gm]; rfl, Option.bind_some, iteF (by rfl)]
  -- parts
  obtain ⟨j, hj, hj2⟩ : ∃ j : Nat, p12.1 = (j : Int) ∧ j ≤ p1.1.length := ⟨p12.1.toNat, by omega, by omega⟩
  have part : ∀ k : List Mv, (∀ s ∈ k, Sm s q h) → k.length ≤ p1.1.length → ∃ Q H, Run one k (prod k one) ∧ Nm (prod k one) Q H ∧ Q ≤ G ∧ H ≤ G ∧ Mo.Un (prod k one).1 := fun k hk hl => by
    have hK2 : q ^ k.length ≤ 10 ^ 36 := by
      have : q ^ k.length ≤ q ^ p1.1.length := by
        obtain ⟨e, he⟩ : ∃ e, p1.1.length = k.length + e := ⟨p1.1.length - k.length, by omega⟩
        rw [he, Int.pow_add]
        have x1 := pow_pos' (show 1 ≤ q by have := row.q2; omega) e
        have x2 := pow_pos' (show 1 ≤ q by have := row.q2; omega) k.length
        have := le_mulL x1 (show 0 ≤ q ^ k.length by omega)
        rw [Int.mul_comm]
        exact this
      omega
    obtain ⟨⟨H1, c1, b1⟩, _, _⟩ := row_fw (l := k) ⟨hk, row.q2, row.h0⟩ hq hh hK2
    obtain ⟨r1, n1, u1⟩ := c1.run (m := one) (by decide) (by decide) un_one (nm_one (by decide)) (by unfold G; omega) (by unfold G; omega)
    exact ⟨_, _, r1, n1, by unfold G; omega, by unfold G; omega, u1⟩
  obtain ⟨Qa, Ha, ra, na, ga1, ga2, ua⟩ := part (p1.1.take j) (fun s hs => row.sm s (List.mem_of_mem_take hs)) (by rw [List.length_take]; omega)
  obtain ⟨Qb, Hb, rb, nb, gb1, gb2, ub⟩ := part (p1.1.drop j) (fun s hs => row.sm s (List.mem_of_mem_drop hs)) (by rw [List.length_drop]; omega)
  have hab : mul (prod (p1.1.take j) one) (prod (p1.1.drop j) one) = m := by
    rw [← prod_eq, ← prod_app, List.take_append_drop, hm]
  rw [hj, cutL_hi, cutL_lo, made_ok ra, Option.bind_some, made_ok rb, Option.bind_some, behind_ok (nm_good ua na ga1 ga2) (nm_good ub nb gb1 gb2), Option.bind_some, hab, eqO_of (eM_sh m) rfl, Option.bind_some, Option.bind_some, iteF (by rfl)]
  -- points
  have hl3 : (p0 :: ps).length = 3 := by rw [List.length_cons, lps]
  obtain ⟨f1, f2⟩ := led_run c2 (by decide) (by decide) hK' (by unfold G; omega) (p0 :: ps) (by omega) (by omega) bps
  rw [hm] at f1 f2
  have pk : ∀ p ∈ p0 :: ps, PtOk p := fun p hp => ⟨Int.le_trans (bps p hp).1 (by decide), Int.le_trans (bps p hp).2 (by decide)⟩
  have pk2 : ∀ p ∈ (p0 :: ps).map (app m), PtOk p := fun p hp => ⟨Int.le_trans (f2 p hp).1 (by unfold G; omega), Int.le_trans (f2 p hp).2 (by unfold G; omega)⟩
  rw [hps, f1]
  simp only [Option.bind_some]
  rw [led_ok gm (by omega) (by omega) pk]
  simp only [Option.bind_some]
  rw [eqO_of ((ePs_pl _).sh) rfl]
  simp only [Option.bind_some]
  rw [iteF (by rfl), show m_is_same_paper ((p0 :: ps).map P3) (((p0 :: ps).map (app m)).map P3) (e_t2st2t2t2iit2iit2ii (Str.ofString "move", m)) = some true from is_same_move (q0 := app m p0) (k := ps.map (app m)) ⟨by omega, pk⟩ ⟨by rw [List.length_cons, List.length_map, lps]; decide, pk2⟩ (by rw [List.length_map]) gm rfl]
  simp only [Option.bind_some]
  rw [iteF (by rfl), back_ok row.sm hq (by omega)]
  simp only [Option.bind_some]
  rw [made_ok r3]
  simp only [Option.bind_some]
  rw [behind_ok gm gb, bl]
  simp only [Option.bind_some]
  rw [show m__law_still = some one from rfl]
  simp only [Option.bind_some]
  rw [eqO_of (eM_sh one) rfl]
  simp only [Option.bind_some]
  rw [iteF (by rfl), behind_ok gb gm, br]
  simp only [Option.bind_some]
  rw [eqO_of (eM_sh one) rfl]
  simp only [Option.bind_some]
  rw [iteF (by rfl), led_ok gb (by rw [List.length_map]; omega) (by rw [List.length_map]; omega) pk2]
  have hback : ((p0 :: ps).map (app m)).map (app b) = p0 :: ps := by
    rw [List.map_map]
    have : (app b ∘ app m) = id := by
      funext p
      show app b (app m p) = p
      rw [← app_mul, bl]
      show (1 * p.1 + 0 * p.2 + 0, 0 * p.1 + 1 * p.2 + 0) = p
      simp
    rw [this, List.map_id]
  simp only [Option.bind_some]
  rw [hback, eqO_of ((ePs_pl _).sh) rfl]
  simp only [Option.bind_some]
  rw [iteF (by rfl)]
  -- Euclid
  have nnA := n1.1
  obtain ⟨n11, n12, n13, n14⟩ := n1
  have z1 := ab_nn m.1.1.1; have z2 := ab_nn m.1.1.2; have z3 := ab_nn m.1.2.1; have z4 := ab_nn m.1.2.2
  obtain ⟨w1, w2⟩ := undone_ok (A := 10 ^ 36) u1 (by decide +kernel) (by omega) (by omega) (by omega) (by omega)
  rw [w1]
  simp only [Option.bind_some]
  rw [catO_ok2 (by simp only [List.length_cons, List.length_nil]; omega)]
  simp only [Option.bind_some]
  have hinv : inv m = b := by
    rw [← one_mul b, ← inv_mul m u1, mul_assoc, bl, mul_one]
  obtain ⟨v', hv⟩ := und_run (A := q ^ p1.1.length) (H := H1) (X := H3) u1 ⟨n11, n12, n13, n14⟩ (by rw [hinv]; exact n3.2.2.2) (by omega) (by omega) (by omega)
  rw [made_ok (m' := (((1, 0), (0, 1)), v')) (by
    refine .cons ⟨un_one, by refine ⟨?_, ?_, ?_, ?_, ?_, ?_⟩ <;> decide⟩ gm ?_
    rw [one_mul]; exact hv)]
  simp only [Option.bind_some]
  rw [eqO_of (by rfl) rfl]
  simp only [Option.bind_some]
  rw [iteF (by rfl)]
  -- three points
  have pk3 : ∀ p ∈ tri0, PtOk p := fun p hp => by
    simp only [tri0, List.mem_cons, List.not_mem_nil, or_false] at hp
    rcases hp with rfl | rfl | rfl <;> exact ⟨by decide, by decide⟩
  have pk4 : ∀ p ∈ tri0, PtOk (app m p) := fun p hp => by
    have hb : ab p.1 ≤ 1 ∧ ab p.2 ≤ 1 := by
      simp only [tri0, List.mem_cons, List.not_mem_nil, or_false] at hp
      rcases hp with rfl | rfl | rfl <;> exact ⟨by decide, by decide⟩
    have e1 := lin2 _ _ _ _ _ _ n11 hb.1 hb.2
    have e2 := lin2 _ _ _ _ _ _ n12 hb.1 hb.2
    have e3 := ab_add (m.1.1.1 * p.1 + m.1.1.2 * p.2) m.2.1
    have e4 := ab_add (m.1.2.1 * p.1 + m.1.2.2 * p.2) m.2.2
    exact ⟨by show ab (m.1.1.1 * p.1 + m.1.1.2 * p.2 + m.2.1) ≤ _; unfold G; omega, by show ab (m.1.2.1 * p.1 + m.1.2.2 * p.2 + m.2.2) ≤ _; unfold G; omega⟩
  have t1 := led_ok gm (l := tri0) (by decide) (by decide) pk3
  have t2 := tri_same gm pk4
  have e3 : ([(0, 0, 1), (1, 0, 1), (0, 1, 1)] : List (Int × Int × Int)) = tri0.map P3 := rfl
  rw [e3, t1]
  simp only [Option.bind_some]
  rw [t2]
  simp only [Option.bind_some]
  rw [eqO_of (eSM_sh m) rfl]
  exact ⟨_, rfl, rfl, c12⟩
end Abs
namespace Abs
open PySem PySem.Spec PyProof.Rows L2 Mo
def tD : Option Int → D
  | none => .none
  | some i => .int i
theorem tD_sh (o : Option Int) : SeqAt.shaped (tD o) = true := by cases o <;> rfl
theorem isN_tD (o : Option Int) : isN (tD o) = o.isNone := by cases o <;> rfl
def pwNext (M : Mv) (told : Option Int) (n : Nat) : Option Int := if told.isNone && decide (pw n M = one) then some (n : Int) else told
abbrev AS := Mv × List (Int × Int × Int) × D
def aBody (t20 : Mv) (pt : Int × Int × Int) (d : Dice) : Int → AS → Option (Lo AS (Bool × Dice)) := fun (x26 : Int) (s25 : AS) => ((m_led_behind s25.1 t20).bind fun t29 => (m_led t20 s25.2.1).bind fun t30 => (m_led t29 [pt]).bind fun t31 => (eqO (e_ut3iii t31) (e_ut3iii t30)).bind fun t32 => if (!t32) = true then (some (.ret (false, d))) else ((if (isN s25.2.2) = true then ((m__law_still ).bind fun t34 => (eqO (e_t2t2t2iit2iit2ii t29) (e_t2t2t2iit2iit2ii t34)).bind fun t35 => some t35) else some false).bind fun t37 => some (.go (t29, t30, (if t37 = true then (.int x26) else s25.2.2)))))
theorem again_loop {M : Mv} {p : Int × Int} {d : Dice} (hG : ∀ j ≤ 12, Mo.Good (pw j M) ∧ PtOk (app (pw j M) p)) (hM : Mo.Good M) (hp : PtOk p) : ∀ (n k : Nat) (told : Option Int), k + n ≤ 12 →
    forL (aBody M (P3 p) d) ((List.range' (k + 1) n).map fun i : Nat => (i : Int)) (pw k M, [P3 (app (pw k M) p)], tD told) = some (.brk (pw (k + n) M, [P3 (app (pw (k + n) M) p)], tD ((List.range' (k + 1) n).foldl (pwNext M) told)))
  | 0, k, told, _ => rfl
  | n + 1, k, told, h => by
    rw [List.range'_succ, List.map_cons, List.foldl_cons]
    unfold forL
    have g1 := hG k (by omega)
    have g2 := hG (k + 1) (by omega)
    have e1 : m_led_behind (pw k M) M = some (pw (k + 1) M) := behind_ok g1.1 hM
    have e2 : m_led M [P3 (app (pw k M) p)] = some [P3 (app (pw (k + 1) M) p)] := by
      have := led_ok hM (l := [app (pw k M) p]) (by simp) (by simp) (fun q hq => by rw [List.mem_singleton.mp hq]; exact g1.2)
      rw [show (([app (pw k M) p] : List (Int × Int)).map (app M)).map P3 = [P3 (app (pw (k + 1) M) p)] by
        show [P3 (app M (app (pw k M) p))] = [P3 (app (mul (pw k M) M) p)]
        rw [app_mul]] at this
      exact this
    have e3 : m_led (pw (k + 1) M) [P3 p] = some [P3 (app (pw (k + 1) M) p)] := led_ok g2.1 (l := [p]) (by simp) (by simp) (fun q hq => by rw [List.mem_singleton.mp hq]; exact hp)
    have hb : aBody M (P3 p) d (((k + 1 : Nat) : Int)) (pw k M, [P3 (app (pw k M) p)], tD told) = some (.go (pw (k + 1) M, [P3 (app (pw (k + 1) M) p)], tD (pwNext M told (k + 1)))) := by
      unfold aBody
      simp only []
      rw [e1, Option.bind_some, e2, Option.bind_some, e3, Option.bind_some, eqO_of ((ePs_pl _).sh) rfl, Option.bind_some, if_neg (by decide), isN_tD]
      unfold pwNext
      cases told with
      | some i => rfl
      | none =>
        simp only [Option.isNone_none, Bool.true_and, if_true]
        rw [show m__law_still = some one from rfl, Option.bind_some, eq_M, Option.bind_some, Option.bind_some]
        by_cases z : pw (k + 1) M = one
        · simp [z, tD]
        · simp [z, tD]
    rw [hb, Option.bind_some]
    have h2 := again_loop (d := d) hG hM hp n (k + 1) (pwNext M told (k + 1)) (by omega)
    rw [show k + 1 + n = k + (n + 1) by omega] at h2
    exact h2
theorem first_eq (M : Mv) : first M = (List.range' 1 12).foldl (pwNext M) none := rfl
theorem e4_pl (a : Int × Int × Int × Int) : Pl (e_t4iiii a) := ⟨rfl, by unfold e_t4iiii; simp [PyData.depth, PyData.depthAll]⟩
theorem e4_inj (a b : Int × Int × Int × Int) (h : e_t4iiii a = e_t4iiii b) : a = b := by
  obtain ⟨a1, a2, a3, a4⟩ := a
  obtain ⟨b1, b2, b3, b4⟩ := b
  simp [e_t4iiii] at h
  simp [h]
theorem eq4 (a b : Int × Int × Int × Int) : eqO (e_t4iiii a) (e_t4iiii b) = some (decide (a = b)) := eqO_in e4_pl e4_inj a b
theorem e2_pl (a : Int × Int) : Pl (e_t2ii a) := ⟨rfl, by unfold e_t2ii; simp [PyData.depth, PyData.depthAll]⟩
theorem e2_inj (a b : Int × Int) (h : e_t2ii a = e_t2ii b) : a = b := by
  obtain ⟨a1, a2⟩ := a
  obtain ⟨b1, b2⟩ := b
  simp [e_t2ii] at h
  simp [h]
theorem eq2 (a b : Int × Int) : eqO (e_t2ii a) (e_t2ii b) = some (decide (a = b)) := eqO_in e2_pl e2_inj a b
theorem times_ok {M : Mv} (h : Le M (10 ^ 100)) : m__law_times M = some (tD (times M)) := by
  obtain ⟨⟨⟨a, b⟩, ⟨c, d⟩⟩, ⟨s, t⟩⟩ := M
  obtain ⟨h1, h2, h3, h4, h5, h6⟩ := h
  simp only at h1 h2 h3 h4 h5 h6
  have ha : ab (a + 1) ≤ 10 ^ 200 := by unfold ab at *; omega
  have hd : ab (d + 1) ≤ 10 ^ 200 := by unfold ab at *; omega
  unfold m__law_times times
  simp only []
  rw [mul_ab (by omega) (by omega), Option.bind_some, mul_ab (by omega) (by omega), Option.bind_some, eq4, Option.bind_some]
  have r1 : ((a, b, c, d) = ((1, 0, 0, 1) : Int × Int × Int × Int)) ↔ (((a, b), (c, d)) = (((1, 0), (0, 1)) : Rw)) := by simp only [Prod.mk.injEq, and_assoc]
  have r2 : ((a, b, c, d) = ((-1, 0, 0, -1) : Int × Int × Int × Int)) ↔ (((a, b), (c, d)) = (((-1, 0), (0, -1)) : Rw)) := by simp only [Prod.mk.injEq, and_assoc]
  by_cases c1 : ((a, b), (c, d)) = (((1, 0), (0, 1)) : Rw)
  · rw [if_pos (by rw [decide_eq_true (r1.mpr c1)]), if_pos c1, eq2, Option.bind_some]
    by_cases c2 : (s, t) = ((0, 0) : Int × Int)
    · rw [if_pos c2, decide_eq_true c2, if_pos rfl]; rfl
    · rw [if_neg c2, decide_eq_false c2, if_neg (by decide)]; rfl
  · rw [if_neg (by rw [decide_eq_false (fun z => c1 (r1.mp z))]; decide), if_neg c1]
    have hdet : a * d - b * c = det ((a, b), (c, d)) := rfl
    have htr : a + d = tr ((a, b), (c, d)) := rfl
    rw [hdet, htr]
    by_cases c2 : det ((a, b), (c, d)) = -1
    · rw [if_pos (by rw [decide_eq_true c2]), if_pos c2]
      by_cases c3 : tr ((a, b), (c, d)) = 0
      · rw [if_pos (by rw [decide_eq_true c3]), mul_ab ha (by omega), Option.bind_some, mul_ab (by omega) (by omega), Option.bind_some, mul_ab (by omega) (by omega), Option.bind_some, mul_ab hd (by omega), Option.bind_some, eq2, Option.bind_some, Option.bind_some]
        by_cases c4 : ((a + 1) * s + b * t, c * s + (d + 1) * t) = ((0, 0) : Int × Int)
        · rw [if_pos (decide_eq_true c4), if_pos ⟨c3, c4⟩]; rfl
        · rw [if_neg (by rw [decide_eq_false c4]; decide), if_neg (fun z => c4 z.2)]; rfl
      · rw [if_neg (by rw [decide_eq_false c3]; decide), if_neg (fun z => c3 z.1), Option.bind_some, if_neg (by decide)]; rfl
    · rw [if_neg (by rw [decide_eq_false c2]; decide), if_neg c2, eq4, Option.bind_some]
      by_cases c3 : ((a, b), (c, d)) = (((-1, 0), (0, -1)) : Rw)
      · rw [if_pos (by rw [decide_eq_true (r2.mpr c3)]), if_pos c3]; rfl
      · rw [if_neg (by rw [decide_eq_false (fun z => c3 (r2.mp z))]; decide), if_neg c3]
        generalize tr ((a, b), (c, d)) = x
        by_cases x1 : x = -1
        · subst x1; rfl
        · by_cases x2 : x = 0
          · subst x2; rfl
          · by_cases x3 : x = 1
            · subst x3; rfl
            · rw [if_neg x1, if_neg x2, if_neg x3, iteF (by simp; omega)]; rfl
theorem ch_rep {M : Mv} {q h : Int} (hq : 1 ≤ q) (hh : 0 ≤ h) (u : Mo.Un M.1) (n : Nm M q h) (k : Nat) : ∃ H, Ch 1 0 (List.replicate k M) (q ^ k) H ∧ (q - 1) * H + h = q ^ k * h := by
  obtain ⟨H, c, e⟩ := ch_unif hq hh (List.replicate k M) (fun s hs => by rw [List.eq_of_mem_replicate hs]; exact ⟨u, n⟩) 1 0
  rw [List.length_replicate, Int.mul_one] at c
  rw [List.length_replicate, Int.mul_zero, Int.zero_add] at e
  exact ⟨H, c, e⟩
theorem pw_prod (M : Mv) : ∀ k, pw k M = prod (List.replicate k M) one
  | 0 => rfl
  | k + 1 => by
    rw [show List.replicate (k + 1) M = List.replicate k M ++ [M] from List.replicate_succ', prod_app, ← pw_prod M k]
    rfl
theorem pow_mono {q : Int} (h : 1 ≤ q) {k n : Nat} (hk : k ≤ n) : q ^ k ≤ q ^ n := by
  obtain ⟨e, rfl⟩ : ∃ e, n = k + e := ⟨n - k, by omega⟩
  rw [Int.pow_add]
  have x1 := pow_pos' h e
  have x2 := pow_pos' h k
  have := le_mulL x1 (show 0 ≤ q ^ k by omega)
  rw [Int.mul_comm]
  exact this
theorem kinds_nm : ∀ r ∈ kinds, (det r = 1 ∨ det r = -1) ∧ ab r.1.1 + ab r.1.2 ≤ 3 ∧ ab r.2.1 + ab r.2.2 ≤ 3 := by decide +kernel
theorem again_ok (d : Dice) (hd : DiceOk d) : ∃ p, m__law_again_right d = some p ∧ p.1 = true ∧ DiceOk p.2 := by
  unfold m__law_again_right
  obtain ⟨p1, e1, i1, c1⟩ := one_of_ok d kinds hd (by decide) (by decide)
  obtain ⟨p2, e2, a2, b2, c2⟩ := roll_ok p1.2 3 c1 (by decide) (by decide +kernel)
  obtain ⟨p3, e3, a3, b3, c3⟩ := roll_ok p2.2 3 c2 (by decide) (by decide +kernel)
  obtain ⟨p4, e4, a4, b4, c4⟩ := roll_ok p3.2 4 c3 (by decide) (by decide +kernel)
  obtain ⟨t5, e5, l5, s5, _⟩ := rg_len p4.1 a4 (by omega)
  obtain ⟨r, er, lr, sm, dr⟩ := mapS_ok (m := (fun (x7 : Int) (d8 : Dice) => (modO x7 2).bind fun t11 => (m__law_roll d8 9).bind fun p12 => (m__law_roll p12.2 5).bind fun p13 => (m__law_roll p13.2 5).bind fun p14 => (m__law_step t11 (p12.1 - 4) (p13.1, (0 - p14.1))).bind fun t15 => some (t15, p14.2))) DiceOk (fun s : Mv => Sm s 5 4) t5 (fun x _ d7 h7 => by
    obtain ⟨p10, e10, a10, b10, c10⟩ := roll_ok d7 9 h7 (by decide) (by decide +kernel)
    obtain ⟨p11, e11, a11, b11, c11⟩ := roll_ok p10.2 5 c10 (by decide) (by decide +kernel)
    obtain ⟨p13, e13, a13, b13, c13⟩ := roll_ok p11.2 5 c11 (by decide) (by decide +kernel)
    have m0 := Int.emod_nonneg x (show (2 : Int) ≠ 0 by decide)
    have m1 := Int.emod_lt_of_pos x (show (0 : Int) < 2 by decide)
    obtain ⟨s, es, hs⟩ := step_ok (x % 2) (p10.1 - 4) (p11.1, 0 - p13.1) (q := 5) (h := 4) m0 (by omega) (by unfold ab; omega) (by unfold ab; simp only; omega) (by unfold ab; simp only; omega)
    rw [modO_ok (by decide), Option.bind_some, e10, Option.bind_some, e11, Option.bind_some, e13, Option.bind_some, es]
    exact ⟨_, rfl, hs, c13⟩) p4.2 c4
  have hl3 : r.1.length ≤ 3 := by omega
  obtain ⟨p22, e22, a22, b22, c22⟩ := roll_ok r.2 9 dr (by decide) (by decide +kernel)
  obtain ⟨p23, e23, a23, b23, c23⟩ := roll_ok p22.2 9 c22 (by decide) (by decide +kernel)
  rw [show m__law_one_of d ([((0, (-1)), (1, 0)), ((0, (-1)), (1, 1)), ((0, (-1)), (1, (-1))), (((-1), 0), (0, (-1))), ((1, 0), (0, (-1))), ((0, 1), (1, 0)), ((1, 1), (0, 1)), ((2, 1), (1, 1)), ((1, 0), (0, 1))] : List ((Int × Int) × (Int × Int))) = some p1 from e1, Option.bind_some, e2, Option.bind_some, e3, Option.bind_some, e4, Option.bind_some, e5, Option.bind_some, s5, Option.bind_some, er, Option.bind_some, back_ok sm (by decide +kernel) (by omega), Option.bind_some]
  obtain ⟨k1, k2, k3⟩ := kinds_nm p1.1 i1
  have hN : Nm (p1.1, (p2.1 - 1, p3.1 - 1)) 3 1 := ⟨k2, k3, by unfold ab; simp only; omega, by unfold ab; simp only; omega⟩
  have hU : Mo.Un p1.1 := k1
  have hko := kinds_ok p1.1 i1 (p2.1 - 1) (by simp; omega) (p3.1 - 1) (by simp; omega)
  generalize hmv : ((p1.1, (p2.1 - 1, p3.1 - 1)) : Mv) = mv at *
  have hU2 : Mo.Un mv.1 := by rw [← hmv]; exact hU
  have lb : (backl r.1).length ≤ 6 := by
    have : ∀ l : List Mv, (backl l).length = 2 * l.length := fun l => by
      induction l with
      | nil => rfl
      | cons s l ih =>
        show (backl l ++ back1 s).length = _
        rw [List.length_append, back1_len, ih, List.length_cons]; omega
    rw [this]; omega
  rw [catO_ok2 (by simp only [List.length_cons, List.length_nil]; omega), Option.bind_some, catO_ok2 (by rw [List.length_append]; simp only [List.length_cons, List.length_nil]; omega), Option.bind_some]
  -- the move
  have hsm : ∀ s ∈ r.1, Mo.Un s.1 := fun s hs => (sm s hs).1
  have bl := backl_left r.1 hsm
  have br := backl_right r.1 hsm
  obtain ⟨H1, cb, eb⟩ := ch_back (q := 5) (h := 4) (by decide) (by decide) r.1 sm 1 0
  obtain ⟨H3, cf, ef⟩ := ch_unif (q := 5) (h := 4) (by decide) (by decide) r.1 (fun s hs => ⟨(sm s hs).1, (sm s hs).2.1⟩) (3 * (5 ^ r.1.length * 1)) (3 * H1 + 1)
  have h5 : (5 : Int) ^ r.1.length ≤ 125 := by
    have := pow_mono (q := 5) (by decide) hl3
    exact Int.le_trans this (by decide)
  have h50 : 1 ≤ (5 : Int) ^ r.1.length := pow_pos' (by decide) _
  have hall : Ch 1 0 (backl r.1 ++ [mv] ++ r.1) (5 ^ r.1.length * (3 * (5 ^ r.1.length * 1))) H3 := (cb.app (.cons (by decide) (by decide) hU2 hN .nil)).app cf
  have m1 := (cb.mono (by decide) (by decide)).2
  have m3 := (cf.mono (by omega) (by omega)).2
  have hQ : (5 : Int) ^ r.1.length * (3 * (5 ^ r.1.length * 1)) ≤ 46875 := by
    have : (5 : Int) ^ r.1.length * (3 * (5 ^ r.1.length * 1)) ≤ 125 * (3 * (125 * 1)) := Int.mul_le_mul h5 (by omega) (by omega) (by decide)
    omega
  have hH1 : H1 ≤ 620 := by omega
  have hH3 : H3 ≤ 300000 := by
    have : (5 : Int) ^ r.1.length * ((5 - 1) * (3 * H1 + 1) + 4) ≤ 125 * ((5 - 1) * (3 * H1 + 1) + 4) := Int.mul_le_mul_of_nonneg_right h5 (by omega)
    omega
  obtain ⟨rM, nM, uM⟩ := hall.run (m := one) (by decide) (by decide) un_one (nm_one (by decide)) (by unfold G; omega) (by unfold G; omega)
  have hMe : prod (backl r.1 ++ [mv] ++ r.1) one = conj (prod r.1 one) (prod (backl r.1) one) mv := by
    rw [prod_app, prod_app, prod_eq r.1]
    rfl
  rw [made_ok rM, Option.bind_some, show m__law_still = some one from rfl, Option.bind_some, e22, Option.bind_some, e23, Option.bind_some]
  have hfirst : first (prod (backl r.1 ++ [mv] ++ r.1) one) = times (prod (backl r.1 ++ [mv] ++ r.1) one) := by
    rw [hMe, first_conj bl br, times_conj bl br]; exact hko
  generalize prod (backl r.1 ++ [mv] ++ r.1) one = M at *
  have nM' : Nm M 46875 300000 := by
    obtain ⟨x1, x2, x3, x4⟩ := nM
    exact ⟨by omega, by omega, by omega, by omega⟩
  have gM : Mo.Good M := nm_good uM nM' (by decide) (by decide)
  have hp : PtOk (p22.1, 0 - p23.1) := ⟨by unfold ab G; simp only; omega, by unfold ab G; simp only; omega⟩
  have hG : ∀ j ≤ 12, Mo.Good (pw j M) ∧ PtOk (app (pw j M) (p22.1, 0 - p23.1)) := fun j hj => by
    obtain ⟨H, cc, ee⟩ := ch_rep (q := 46875) (h := 300000) (by decide) (by decide) uM nM' j
    have q12 : (46875 : Int) ^ j ≤ 46875 ^ 12 := pow_mono (by decide) hj
    have m := (cc.mono (by decide) (by decide)).2
    have hk : (46875 : Int) ^ 12 = 112541786278598010539000824792310595512390136718750000 * 1000 + (46875 ^ 12 - 112541786278598010539000824792310595512390136718750000 * 1000) := by omega
    have q13 : (46875 : Int) ^ 12 ≤ 2 * 10 ^ 56 := by decide +kernel
    have hHb : H ≤ 10 ^ 58 := by omega
    obtain ⟨_, nn, uu⟩ := cc.run (m := one) (by decide) (by decide) un_one (nm_one (by decide)) (by unfold G; omega) (by unfold G; omega)
    rw [← pw_prod] at nn uu
    refine ⟨nm_good uu nn (by unfold G; omega) (by unfold G; omega), ?_⟩
    obtain ⟨n1, n2, n3, n4⟩ := nn
    have hb1 : ab p22.1 ≤ 8 := by unfold ab; omega
    have hb2 : ab (0 - p23.1) ≤ 8 := by unfold ab; omega
    have z1 := lin2 _ _ _ _ _ _ n1 hb1 hb2
    have z2 := lin2 _ _ _ _ _ _ n2 hb1 hb2
    have z3 := ab_add ((pw j M).1.1.1 * p22.1 + (pw j M).1.1.2 * (0 - p23.1)) (pw j M).2.1
    have z4 := ab_add ((pw j M).1.2.1 * p22.1 + (pw j M).1.2.2 * (0 - p23.1)) (pw j M).2.2
    exact ⟨by show ab ((pw j M).1.1.1 * p22.1 + (pw j M).1.1.2 * (0 - p23.1) + (pw j M).2.1) ≤ _; unfold G; omega, by show ab ((pw j M).1.2.1 * p22.1 + (pw j M).1.2.2 * (0 - p23.1) + (pw j M).2.2) ≤ _; unfold G; omega⟩
  have hloop := again_loop (d := p23.2) hG gM hp 12 0 none (by decide)
  rw [show rg2O 1 13 = some ((List.range' (0 + 1) 12).map fun i : Nat => (i : Int)) from rfl, Option.bind_some]
  have h0 : app (pw 0 M) (p22.1, 0 - p23.1) = (p22.1, 0 - p23.1) := by
    show (1 * p22.1 + 0 * (0 - p23.1) + 0, 0 * p22.1 + 1 * (0 - p23.1) + 0) = _
    simp
  rw [h0] at hloop
  refine Exists.imp (fun x hx => ⟨Eq.trans (congrArg (fun o => Option.bind o _) hloop) hx.1, hx.2⟩) (p := fun x => _ ∧ x.1 = true ∧ DiceOk x.2) (?_ : ∃ x, _)
  rotate_left
  rw [Option.bind_some]
  simp only []
  rw [times_ok (good_bb gM), Option.bind_some, ← hfirst, first_eq, eqO_of (tD_sh _) rfl]
  exact ⟨_, rfl, rfl, c23⟩
end Abs
namespace Abs
open PySem PySem.Spec PyProof.Rows L2 Mo
/-- one column's rows stay small -/
theorem form1_lb {c : Int × Int} {P : Int} (h0 : 0 ≤ P) (h1 : ab c.1 ≤ P) (h2 : ab c.2 ≤ P) : Lb (form [c]).2 (1 + 999 * P) := by
  have hLb : Lb ((1, 0), (0, 1)) 1 := by refine ⟨?_, ?_, ?_, ?_⟩ <;> decide
  have hX : Xb ((1, 0), (0, 1)) c P := by
    refine ⟨?_, ?_⟩
    · rw [ap_id]; show ab (c.2 * 1 - c.1 * 0) ≤ _
      rw [Int.mul_one, Int.mul_zero, Int.sub_zero]; exact h2
    · rw [ap_id]; show ab (c.2 * 0 - c.1 * 1) ≤ _
      rw [Int.mul_one, Int.mul_zero, Int.zero_sub, ab_neg]; exact h1
  have hb := clrN_bound (n := 999) (c := c) h0 hLb hX
  have hf : form [c] = if sg 0 (ap (clrN 999 c ((1, 0), (0, 1))) c) ≠ 0 then (1, nn 0 c (clrN 999 c ((1, 0), (0, 1)))) else (0, clrN 999 c ((1, 0), (0, 1))) := by
    unfold form
    rw [List.foldl_cons, List.foldl_nil]
    unfold fstep lp fin3
    simp
  rw [hf]
  split
  · exact lb_nn hb
  · exact hb
/-- the one number of a column's form -/
theorem form1_H {c : Int × Int} (h : c.1.natAbs < 2 ^ 450) : ∃ g : Int, 0 ≤ g ∧ ap (form [c]).2 c = (g, 0) := by
  have h0 := (fold0 [c] (fun x hx => by rw [List.mem_singleton.mp hx]; exact h)).1
  rw [List.map_cons, List.map_nil] at h0
  unfold H0 at h0
  obtain ⟨hy, hx⟩ := h0
  refine ⟨(ap (form [c]).2 c).1, ?_, Prod.ext rfl hy⟩
  rcases hx with ⟨e, _⟩ | ⟨e, _⟩ <;> omega
/-- a way without a common divisor is led to (1, 0) -/
theorem prim_led {x y : Int} (hx : x.natAbs < 2 ^ 450) (h : gc x y = 1) : ∃ V, Mo.Un V ∧ ap V (x, y) = (1, 0) := by
  obtain ⟨g, g0, e⟩ := form1_H (c := (x, y)) hx
  have u : Mo.Un (form [(x, y)]).2 := un_form _
  generalize (form [(x, y)]).2 = V at *
  refine ⟨V, u, ?_⟩
  have hb : (x, y) = ap (rinv V) (g, 0) := by rw [← e, ← ap_rmul, rmul_rinv V u, ap_id]
  have hx2 : x = (rinv V).1.1 * g := by
    have := congrArg Prod.fst hb
    simp only [ap, Int.mul_zero, Int.add_zero] at this
    exact this
  have hy2 : y = (rinv V).2.1 * g := by
    have := congrArg Prod.snd hb
    simp only [ap, Int.mul_zero, Int.add_zero] at this
    exact this
  have d1 : g.natAbs ∣ x.natAbs := Int.natAbs_dvd_natAbs.mpr ⟨_, by rw [hx2, Int.mul_comm]⟩
  have d2 : g.natAbs ∣ y.natAbs := Int.natAbs_dvd_natAbs.mpr ⟨_, by rw [hy2, Int.mul_comm]⟩
  have d3 := Nat.dvd_gcd d1 d2
  have hg : Nat.gcd x.natAbs y.natAbs = 1 := by unfold gc at h; omega
  rw [hg] at d3
  have := Nat.dvd_one.mp d3
  have hg1 : g = 1 := by omega
  rw [e, hg1]
theorem gc_div {x y : Int} (h : (x, y) ≠ (0, 0)) : 0 < gc x y ∧ ∃ a b, x = gc x y * a ∧ y = gc x y * b ∧ gc a b = 1 := by
  have hpos : 0 < Nat.gcd x.natAbs y.natAbs := by
    refine Nat.pos_of_ne_zero fun z => h ?_
    have := Nat.gcd_eq_zero_iff.mp z
    refine Prod.ext ?_ ?_ <;> simp only <;> omega
  refine ⟨by unfold gc; omega, ?_⟩
  have e1 : (Nat.gcd x.natAbs y.natAbs : Int) ∣ x := Int.ofNat_dvd_left.mpr (Nat.gcd_dvd_left _ _)
  have e2 : (Nat.gcd x.natAbs y.natAbs : Int) ∣ y := Int.ofNat_dvd_left.mpr (Nat.gcd_dvd_right _ _)
  obtain ⟨a, ha⟩ := e1
  obtain ⟨b, hb⟩ := e2
  refine ⟨a, b, ha, hb, ?_⟩
  have ka : x.natAbs = Nat.gcd x.natAbs y.natAbs * a.natAbs := by
    have := congrArg Int.natAbs ha
    rw [Int.natAbs_mul, Int.natAbs_natCast] at this
    exact this
  have kb : y.natAbs = Nat.gcd x.natAbs y.natAbs * b.natAbs := by
    have := congrArg Int.natAbs hb
    rw [Int.natAbs_mul, Int.natAbs_natCast] at this
    exact this
  have : Nat.gcd x.natAbs y.natAbs * Nat.gcd a.natAbs b.natAbs = Nat.gcd x.natAbs y.natAbs * 1 := by
    rw [← Nat.gcd_mul_left, ← ka, ← kb, Nat.mul_one]
  have := Nat.eq_of_mul_eq_mul_left hpos this
  unfold gc; omega
/-- the whole form of two places -/
theorem pair_form {A B : Int × Int} {f : Int} (hf : 0 ≤ f) (h : PtsOk [A, B]) (hV : ∃ V, Mo.Un V ∧ ap V (B.1 - A.1, B.2 - A.2) = (f, 0)) : fH A [B] = [[f], [0]] := by
  have hb := diff_le h (p0 := A) (l := [B])
  have hc := col450 hb
  obtain ⟨V, u, hV⟩ := hV
  have hd : diff A [B] = [(B.1 - A.1, B.2 - A.2)] := rfl
  have h1 := (fold0 (diff A [B]) hc).1
  have u1 : Mo.Un (form (diff A [B])).2 := un_form _
  have e : (diff A [B]).map (ap (form (diff A [B])).2) = ((diff A [B]).map (ap V)).map (ap (rmul (rinv V) (form (diff A [B])).2)) := by
    rw [← map_comp, map_back u]
  rw [e] at h1
  have h0 : H0 ((diff A [B]).map (ap V)) := by
    rw [hd, List.map_cons, List.map_nil, hV]
    unfold H0
    refine ⟨rfl, ?_⟩
    by_cases z : f = 0
    · exact .inl ⟨z, trivial⟩
    · exact .inr ⟨by simp only; omega, trivial⟩
  have := h0_one _ _ ((un_rinv u).mul u1) h0 h1
  unfold fH fL rowsOf row0 row1
  rw [this] at e
  rw [hd] at *
  rw [List.map_cons, List.map_nil, List.map_cons, List.map_nil, hV] at e
  simp only [List.cons.injEq, and_true] at e
  simp only [List.map_cons, List.map_nil]
  rw [e]
/-- what a drawn row of two places is -/
structure PairOk (y : ((Int × Int × Int) × (Int × Int × Int)) × Int) (A B : Int × Int) : Prop where
  eq : y = ((P3 A, P3 B), y.2)
  f0 : 0 ≤ y.2
  led : ∃ V, Mo.Un V ∧ ap V (B.1 - A.1, B.2 - A.2) = (y.2, 0)
  a1 : ab A.1 ≤ 98 ∧ ab A.2 ≤ 98
  b1 : ab B.1 ≤ 10 ^ 16 ∧ ab B.2 ≤ 10 ^ 16
theorem lawcommon_ok (a b : Int) (hb : b.natAbs < 2 ^ 490) : m__law_common a b = some (gc a b) := by
  unfold m__law_common
  rw [show (whileS (fun s1 : Int × Int => some (decide (s1.2 ≠ 0))) (fun s1 : Int × Int => (modO s1.1 s1.2).bind fun t5 => some (s1.2, t5)) FUEL ((a.natAbs : Int), (b.natAbs : Int))) = _ from euc_ne a b hb]
  rfl
abbrev PR := ((Int × Int × Int) × (Int × Int × Int)) × Int
def prBody (many : Int) (s4 : List PR × Dice) : Option (List PR × Dice) := (m__law_roll s4.2 1000000).bind fun p8 => (m__law_roll p8.2 1000000).bind fun p9 => (eqO (e_t2ii ((p8.1 - 500000), (p9.1 - 500000))) (e_t2ii (0, 0))).bind fun t10 => (if (!t10) = true then ((m__law_common (p8.1 - 500000) (p9.1 - 500000)).bind fun t11 => some t11) else (some 1)).bind fun t12 => (m__law_one_of p9.2 ([(1 + many), (1 + many), ((1 + many) + 1), 0] : List Int)).bind fun p15 => (m__law_roll p15.2 99).bind fun p16 => (m__law_roll p16.2 99).bind fun p17 => (divO (p8.1 - 500000) t12).bind fun t18 => (mulO p15.1 t18).bind fun t19 => (divO (p9.1 - 500000) t12).bind fun t20 => (mulO p15.1 t20).bind fun t21 => (eqO (e_t2ii ((p8.1 - 500000), (p9.1 - 500000))) (e_t2ii (0, 0))).bind fun t22 => (appO s4.1 (((p16.1, p17.1, 1), ((p16.1 + t19), (p17.1 + t21), 1)), (if (!t22) = true then p15.1 else 0))).bind fun t23 => some (t23, p17.2)
theorem prBody_ok {many : Int} (hm : 0 ≤ many) (hm2 : many ≤ 10 ^ 9) {acc : List PR} {d : Dice} (hd : DiceOk d) (ha : acc.length ≤ 10) : ∃ y A B d', prBody many (acc, d) = some (acc ++ [y], d') ∧ DiceOk d' ∧ PairOk y A B := by
  unfold prBody
  obtain ⟨p8, e8, a8, b8, c8⟩ := roll_ok d 1000000 hd (by decide) (by decide +kernel)
  obtain ⟨p9, e9, a9, b9, c9⟩ := roll_ok p8.2 1000000 c8 (by decide) (by decide +kernel)
  obtain ⟨p15, e15, i15, c15⟩ := one_of_ok p9.2 ([(1 + many), (1 + many), ((1 + many) + 1), 0] : List Int) c9 (by simp) (by simp)
  obtain ⟨p16, e16, a16, b16, c16⟩ := roll_ok p15.2 99 c15 (by decide) (by decide +kernel)
  obtain ⟨p17, e17, a17, b17, c17⟩ := roll_ok p16.2 99 c16 (by decide) (by decide +kernel)
  have h15 : 0 ≤ p15.1 ∧ p15.1 ≤ 10 ^ 9 + 2 := by
    simp only [List.mem_cons, List.not_mem_nil, or_false] at i15
    omega
  simp only []
  rw [e8, Option.bind_some, e9, Option.bind_some, eq2, Option.bind_some]
  generalize hx : p8.1 - 500000 = x at *
  generalize hy : p9.1 - 500000 = y at *
  have hxb : ab x ≤ 500000 := by unfold ab; omega
  have hyb : ab y ≤ 500000 := by unfold ab; omega
  generalize hdz : decide ((x, y) = ((0, 0) : Int × Int)) = dz
  have fin : ∀ (g a b f : Int), 0 < g → g ≤ 10 ^ 7 → x / g = a → y / g = b → ab a ≤ 500000 → ab b ≤ 500000 → f = (if (!dz) = true then p15.1 else 0) → (∃ V, Mo.Un V ∧ ap V (p15.1 * a, p15.1 * b) = (f, 0)) → 0 ≤ f →
      ∃ y' A B d', ((some g).bind fun t12 => (m__law_one_of p9.2 ([(1 + many), (1 + many), ((1 + many) + 1), 0] : List Int)).bind fun p15 => (m__law_roll p15.2 99).bind fun p16 => (m__law_roll p16.2 99).bind fun p17 => (divO x t12).bind fun t18 => (mulO p15.1 t18).bind fun t19 => (divO y t12).bind fun t20 => (mulO p15.1 t20).bind fun t21 => (some dz).bind fun t22 => (appO acc (((p16.1, p17.1, 1), ((p16.1 + t19), (p17.1 + t21), 1)), (if (!t22) = true then p15.1 else 0))).bind fun t23 => some (t23, p17.2)) = some (acc ++ [y'], d') ∧ DiceOk d' ∧ PairOk y' A B := by
    intro g a b f hg hg2 ea eb hab hbb ef hV hf0
    rw [Option.bind_some, e15, Option.bind_some, e16, Option.bind_some, e17, Option.bind_some, divO_ok hg (by unfold BB; omega), Option.bind_some, ea, mul_ab (by unfold ab at *; omega) (by omega), Option.bind_some, divO_ok hg (by unfold BB; omega), Option.bind_some, eb, mul_ab (by unfold ab at *; omega) (by omega), Option.bind_some, Option.bind_some, appO_ok (by omega), Option.bind_some, ← ef]
    have k1 : ab (p15.1 * a) ≤ 10 ^ 15 := by
      rw [ab_mul]
      have := Int.mul_le_mul (show ab p15.1 ≤ 10 ^ 9 + 2 by unfold ab; omega) hab (ab_nn a) (by decide)
      omega
    have k2 : ab (p15.1 * b) ≤ 10 ^ 15 := by
      rw [ab_mul]
      have := Int.mul_le_mul (show ab p15.1 ≤ 10 ^ 9 + 2 by unfold ab; omega) hbb (ab_nn b) (by decide)
      omega
    refine ⟨_, (p16.1, p17.1), (p16.1 + p15.1 * a, p17.1 + p15.1 * b), _, rfl, c17, ⟨rfl, hf0, ?_, ⟨by unfold ab; simp only; omega, by unfold ab; simp only; omega⟩, ⟨by unfold ab at *; simp only; omega, by unfold ab at *; simp only; omega⟩⟩⟩
    simp only
    rw [show p16.1 + p15.1 * a - p16.1 = p15.1 * a by omega, show p17.1 + p15.1 * b - p17.1 = p15.1 * b by omega]
    exact hV
  cases dz with
  | true =>
    have z : (x, y) = ((0, 0) : Int × Int) := of_decide_eq_true hdz
    rw [iteF (by rfl)]
    obtain ⟨z1, z2⟩ := Prod.mk.inj z
    refine fin 1 0 0 0 (by decide) (by decide) (by rw [z1]; rfl) (by rw [z2]; rfl) (by decide) (by decide) rfl ⟨((1, 0), (0, 1)), .inl rfl, by rw [ap_id, Int.mul_zero]⟩ (Int.le_refl _)
  | false =>
    have z : (x, y) ≠ ((0, 0) : Int × Int) := of_decide_eq_false hdz
    rw [iteT (by rfl), lawcommon_ok _ _ (Nat.lt_of_le_of_lt (show y.natAbs ≤ 500000 by unfold ab at hyb; omega) (by decide +kernel)), Option.bind_some]
    obtain ⟨hg, a, b, ha, hb, hab⟩ := gc_div z
    have hgx : gc x y ≤ 10 ^ 7 := by
      unfold gc
      have k := Nat.pos_of_ne_zero (fun z : Nat.gcd x.natAbs y.natAbs = 0 => by unfold gc at hg; omega)
      by_cases zx : x = 0
      · have : y ≠ 0 := fun zy => z (by rw [zx, zy])
        have := Nat.le_of_dvd (by omega) (Nat.gcd_dvd_right x.natAbs y.natAbs)
        unfold ab at hyb; omega
      · have := Nat.le_of_dvd (by omega) (Nat.gcd_dvd_left x.natAbs y.natAbs)
        unfold ab at hxb; omega
    have ea : x / gc x y = a := by rw [show x / gc x y = (gc x y * a) / gc x y by rw [← ha], Int.mul_ediv_cancel_left _ (by omega)]
    have eb : y / gc x y = b := by rw [show y / gc x y = (gc x y * b) / gc x y by rw [← hb], Int.mul_ediv_cancel_left _ (by omega)]
    have habs : ab a ≤ 500000 := by
      have h1 : ab (gc x y * a) ≤ 500000 := by rw [← ha]; exact hxb
      rw [ab_mul] at h1
      have := le_mulL (show 1 ≤ ab (gc x y) by unfold ab; omega) (ab_nn a)
      omega
    have hbbs : ab b ≤ 500000 := by
      have h1 : ab (gc x y * b) ≤ 500000 := by rw [← hb]; exact hyb
      rw [ab_mul] at h1
      have := le_mulL (show 1 ≤ ab (gc x y) by unfold ab; omega) (ab_nn b)
      omega
    obtain ⟨V, u, hV⟩ := prim_led (x := a) (y := b) (Nat.lt_of_le_of_lt (show a.natAbs ≤ 500000 by unfold ab at habs; omega) (by decide +kernel)) hab
    refine fin (gc x y) a b p15.1 hg hgx ea eb habs hbbs rfl ⟨V, u, ?_⟩ h15.1
    have e1 := congrArg Prod.fst hV
    have e2 := congrArg Prod.snd hV
    simp only [ap] at e1 e2 ⊢
    refine Prod.ext ?_ ?_
    · simp only
      rw [show V.1.1 * (p15.1 * a) + V.1.2 * (p15.1 * b) = p15.1 * (V.1.1 * a + V.1.2 * b) by grind, e1, Int.mul_one]
    · simp only
      rw [show V.2.1 * (p15.1 * a) + V.2.2 * (p15.1 * b) = p15.1 * (V.2.1 * a + V.2.2 * b) by grind, e2, Int.mul_zero]
theorem ne_um : eqO (.str sUnlike) (.str sMove) = some false := by
  rw [str_eq _ _ (by decide +kernel) (by decide +kernel)]
  rw [decide_eq_false (by decide +kernel)]
theorem ne_mu : eqO (.str sMove) (.str sUnlike) = some false := by
  rw [str_eq _ _ (by decide +kernel) (by decide +kernel)]
  rw [decide_eq_false (by decide +kernel)]
theorem pair_pts {y : PR} {A B : Int × Int} (h : PairOk y A B) : PtsOk [A, B] := ⟨by simp, fun p hp => by
  simp only [List.mem_cons, List.not_mem_nil, or_false] at hp
  obtain ⟨_, _, _, a, b⟩ := h
  rcases hp with rfl | rfl
  · exact ⟨Int.le_trans a.1 (by decide), Int.le_trans a.2 (by decide)⟩
  · exact ⟨Int.le_trans b.1 (by decide), Int.le_trans b.2 (by decide)⟩⟩
theorem pair_lb {y : PR} {A B : Int × Int} (h : PairOk y A B) : Lb (fL A [B]) (10 ^ 20) := by
  obtain ⟨_, _, _, a, b⟩ := h
  exact Mo.Lb.up (form1_lb (c := (B.1 - A.1, B.2 - A.2)) (P := 10 ^ 17) (by decide) (by unfold ab at *; simp only; omega) (by unfold ab at *; simp only; omega)) (by decide)
theorem mv_good {y z : PR} {A B C E : Int × Int} (h : PairOk y A B) (k : PairOk z C E) (e : fH A [B] = fH C [E]) : Mo.Good (mvOf A C [B] [E]) := by
  obtain ⟨s1, s2, s3, s4⟩ := mvOf_spec (pair_pts h) (pair_pts k) e
  have l1 := pair_lb h
  have l2 := rinv_lb (un_form _) (pair_lb k)
  obtain ⟨a1, a2, a3, a4⟩ := l1
  obtain ⟨b1, b2, b3, b4⟩ := l2
  have key : ∀ x y z w : Int, ab x ≤ 10 ^ 20 → ab y ≤ 10 ^ 20 → ab z ≤ 10 ^ 20 → ab w ≤ 10 ^ 20 → ab (x * y + z * w) ≤ 10 ^ 41 := fun x y z w h1 h2 h3 h4 => by
    have h := ab_add (x * y) (z * w)
    rw [ab_mul, ab_mul] at h
    have := Int.mul_le_mul h1 h2 (ab_nn _) (by decide : (0 : Int) ≤ 10 ^ 20)
    have := Int.mul_le_mul h3 h4 (ab_nn _) (by decide : (0 : Int) ≤ 10 ^ 20)
    omega
  have r1 : ab (mvOf A C [B] [E]).1.1.1 ≤ 10 ^ 41 := key _ _ _ _ b1 a1 b2 a3
  have r2 : ab (mvOf A C [B] [E]).1.1.2 ≤ 10 ^ 41 := key _ _ _ _ b1 a2 b2 a4
  have r3 : ab (mvOf A C [B] [E]).1.2.1 ≤ 10 ^ 41 := key _ _ _ _ b3 a1 b4 a3
  have r4 : ab (mvOf A C [B] [E]).1.2.2 ≤ 10 ^ 41 := key _ _ _ _ b3 a2 b4 a4
  obtain ⟨_, _, _, pa, _⟩ := h
  obtain ⟨_, _, _, pc, _⟩ := k
  have q1 := ap_le (P := 98) ⟨r1, r2, r3, r4⟩ pa.1 pa.2
  have t1 := congrArg Prod.fst s4
  have t2 := congrArg Prod.snd s4
  rw [app_ap] at t1 t2
  simp only at t1 t2
  refine ⟨s1, ?_, ?_, ?_, ?_, ?_, ?_⟩
  · unfold G; omega
  · unfold G; omega
  · unfold G; omega
  · unfold G; omega
  · unfold ab G at *; omega
  · unfold ab G at *; omega
theorem pairs_ok (d : Dice) (hd : DiceOk d) : ∃ p, m__law_pairs_right d = some p ∧ p.1 = true ∧ DiceOk p.2 := by
  unfold m__law_pairs_right
  obtain ⟨p1, e1, i1, c1⟩ := one_of_ok d ([1, 10, 1000000000] : List Int) hd (by decide) (by decide)
  have hp1 : 0 < p1.1 ∧ p1.1 ≤ 1000000000 := by
    simp only [List.mem_cons, List.not_mem_nil, or_false] at i1
    omega
  obtain ⟨p2, e2, a2, b2, c2⟩ := roll_ok p1.2 p1.1 c1 (by omega) (by unfold BB; omega)
  obtain ⟨y, A, B, d3, e3, c3, hy⟩ := prBody_ok (many := p2.1) a2 (by omega) (acc := []) c2 (by decide)
  obtain ⟨z, C, E, d4, e4, c4, hz⟩ := prBody_ok (many := p2.1) a2 (by omega) (acc := [] ++ [y]) c3 (by simp)
  have hfor : forS (fun (_ : Int) (s : List PR × Dice) => prBody p2.1 s) [0, 1] ([], p2.2) = some ([y, z], d4) := by
    unfold forS forS forS
    rw [e3, Option.bind_some, e4]
    rfl
  rw [e1, Option.bind_some, e2, Option.bind_some, show rgO 2 = some [0, 1] by rfl, Option.bind_some]
  unfold prBody at hfor
  rw [hfor]
  rw [Option.bind_some, show asN2 ([y, z], d4).1 = some (y, z) from rfl, Option.bind_some]
  have py := pair_pts hy
  have pz := pair_pts hz
  have fy := pair_form hy.f0 py hy.led
  have fz := pair_form hz.f0 pz hz.led
  have ey1 : y.1.1 = P3 A := congrArg (fun w => w.1.1) hy.eq
  have ey2 : y.1.2 = P3 B := congrArg (fun w => w.1.2) hy.eq
  have ez1 : z.1.1 = P3 C := congrArg (fun w => w.1.1) hz.eq
  have ez2 : z.1.2 = P3 E := congrArg (fun w => w.1.2) hz.eq
  simp only []
  rw [ey1, ey2, ez1, ez2]
  have hwf : m_whole_form [P3 A, P3 B] = some [[y.2], [0]] := by rw [← fy]; exact whole_form_ok py
  have hwe : eqO (e_uui [[y.2], [0]]) (e_t2t1it1i (y.2, 0)) = some true := eqO_of ((euui_pl _).sh) rfl
  by_cases c : y.2 = z.2
  · have hH : fH A [B] = fH C [E] := by rw [fy, fz, c]
    have hs : m_same_paper [P3 A, P3 B] [P3 C, P3 E] = some (eSM (sMove, mvOf A C [B] [E])) := same_move py pz rfl hH
    obtain ⟨s1, s2, s3, s4⟩ := mvOf_spec py pz hH
    have hg := mv_good hy hz hH
    have hm : ([A, B] : List (Int × Int)).map (app (mvOf A C [B] [E])) = [C, E] := by
      have e5 : ap (mvOf A C [B] [E]).1 (B.1 - A.1, B.2 - A.2) = (E.1 - C.1, E.2 - C.2) := by
        have := s3
        simp only [diff, List.map_cons, List.map_nil, List.cons.injEq, and_true] at this
        exact this
      generalize mvOf A C [B] [E] = m at *
      rw [List.map_cons, List.map_cons, List.map_nil, s4]
      congr 2
      unfold app at s4 ⊢
      unfold ap at e5
      have t1 := congrArg Prod.fst s4
      have t2 := congrArg Prod.snd s4
      have t3 := congrArg Prod.fst e5
      have t4 := congrArg Prod.snd e5
      simp only at t1 t2 t3 t4
      refine Prod.ext ?_ ?_ <;> simp only <;> grind
    rw [hs, Option.bind_some, hwf, Option.bind_some, hwe, Option.bind_some, iteF (by rfl)]
    have e0 : tupD (eSM (sMove, mvOf A C [B] [E])) = some [.str sMove, eM (mvOf A C [B] [E])] := rfl
    rw [e0]
    simp only [Option.bind_some, ixO_0, ixO_1]
    rw [eqO_of sh_move (by rfl)]
    simp only [Option.bind_some]
    rw [decide_eq_true c, eqO_of (by rfl) (by rfl)]
    simp only [Option.bind_some]
    rw [iteF (by rfl), show m_is_same_paper [P3 A, P3 B] [P3 C, P3 E] (eSM (sMove, mvOf A C [B] [E])) = some true from is_same_move py pz rfl hg hm]
    simp only [Option.bind_some]
    rw [iteF (by rfl), ne_mu]
    simp only [Option.bind_some]
    rw [iteF (by rfl), led_read]
    simp only [Option.bind_some]
    rw [show m_led (mvOf A C [B] [E]) [P3 A, P3 B] = some (([C, E] : List (Int × Int)).map P3) by rw [← hm]; exact led_ok hg (l := [A, B]) (by simp) (by simp) py.2]
    simp only [Option.bind_some]
    rw [eqO_of ((ePs_pl _).sh) (by
      have : z.1 = (P3 C, P3 E) := Prod.ext ez1 ez2
      rw [this]; rfl)]
    exact ⟨_, rfl, rfl, c4⟩
  · have hH : fH A [B] ≠ fH C [E] := by
      rw [fy, fz]
      intro w
      simp at w
      exact c w
    have hs : m_same_paper [P3 A, P3 B] [P3 C, P3 E] = some (eSU (sUnlike, fH A [B], fH C [E])) := same_unlike py pz rfl hH
    have hq : m_is_same_paper [P3 A, P3 B] [P3 C, P3 E] (eSU (sUnlike, fH A [B], fH C [E])) = some true := by
      have := is_same_unlike (fH A [B]) (fH C [E]) py pz rfl ⟨(fH_len A [B]).1, fun x hx => by rw [(fH_len A [B]).2 x hx]; simp⟩ ⟨(fH_len C [E]).1, fun x hx => by rw [(fH_len C [E]).2 x hx]; simp⟩
      rw [decide_eq_true ⟨hH, rfl, rfl⟩] at this
      exact this
    rw [hs, Option.bind_some, hwf, Option.bind_some, hwe, Option.bind_some, iteF (by rfl)]
    have e0 : tupD (eSU (sUnlike, fH A [B], fH C [E])) = some [.str sUnlike, e_uui (fH A [B]), e_uui (fH C [E])] := rfl
    rw [e0]
    simp only [Option.bind_some, ixO_0, ixO_1]
    rw [ne_um]
    simp only [Option.bind_some]
    rw [decide_eq_false c, eqO_of (by rfl) (by rfl)]
    simp only [Option.bind_some]
    rw [iteF (by rfl), hq]
    simp only [Option.bind_some]
    rw [iteF (by rfl), eqO_of sh_unlike (by rfl)]
    simp only [Option.bind_some]
    exact ⟨(true, d4), rfl, rfl, c4⟩
end Abs
namespace Abs
open PySem PySem.Spec PyProof.Rows L2 Mo
theorem turn20_go (x : Int) (d : Dice) (hd : DiceOk d) : ∃ b : Bool × Dice, ((m__law_word_right d).bind fun p7 => (if (!p7.1) = true then some (true, p7.2) else ((m__law_word_right p7.2 ).bind fun p8 => (if (!p8.1) = true then some (true, p8.2) else ((m__law_again_right p8.2 ).bind fun p9 => (if (!p9.1) = true then some (true, p9.2) else ((m__law_pairs_right p9.2 ).bind fun p10 => some ((!p10.1), p10.2))).bind fun t12 => some (t12.1, t12.2))).bind fun t14 => some (t14.1, t14.2))).bind fun t16 => if t16.1 = true then (some (.ret (false, t16.2))) else (some (.go ())) : Option (Lo (Unit) (Bool × Dice))) = some (.go ()) := by
  obtain ⟨p1, e1, h1, c1⟩ := word_ok d hd
  obtain ⟨p2, e2, h2, c2⟩ := word_ok p1.2 c1
  obtain ⟨p3, e3, h3, c3⟩ := again_ok p2.2 c2
  obtain ⟨p4, e4, h4, c4⟩ := pairs_ok p3.2 c3
  rw [e1, Option.bind_some, h1, if_neg (by decide), e2, Option.bind_some, h2, if_neg (by decide), e3, Option.bind_some, h3, if_neg (by decide), e4, Option.bind_some, h4]
  exact ⟨(true, d), rfl⟩
theorem law_true (ns : List Int) (hl : ns.length ≤ 63) : m_law ns = some true := by
  unfold m_law
  have hr : ∃ xs : List Int, rgO (max 1 (min 2 (ns.length : Int))) = some xs ∧ ∀ x ∈ xs, 0 ≤ x ∧ x ≤ 10 := by
    obtain ⟨t, e, _, _, h⟩ := rg_len (max 1 (min 2 (ns.length : Int))) (by omega) (by omega)
    exact ⟨t, e, fun x hx => by have := h x hx; omega⟩
  obtain ⟨xs, e, hx⟩ := hr
  rw [e, Option.bind_some]
  have hout := forL_go (β := Bool × Dice) (body := (fun (x3 : Int) (s2 : Unit) => ((m__law_dice ns x3).bind fun t6 => (m__law_word_right t6 ).bind fun p7 => (if (!p7.1) = true then some (true, p7.2) else ((m__law_word_right p7.2 ).bind fun p8 => (if (!p8.1) = true then some (true, p8.2) else ((m__law_again_right p8.2 ).bind fun p9 => (if (!p9.1) = true then some (true, p9.2) else ((m__law_pairs_right p9.2 ).bind fun p10 => some ((!p10.1), p10.2))).bind fun t12 => some (t12.1, t12.2))).bind fun t14 => some (t14.1, t14.2))).bind fun t16 => if t16.1 = true then (some (.ret (false, t16.2))) else (some (.go ())) : Option (Lo (Unit) (Bool × Dice))))) (fun _ => True) xs (fun x hx' s _ => by
    obtain ⟨d, e1, hd⟩ := dice_ok ns x (hx x hx').1 (hx x hx').2
    obtain ⟨_, e2⟩ := turn20_go x d hd
    rw [e1, Option.bind_some]
    exact ⟨(), e2, trivial⟩) () trivial
  obtain ⟨s', e2, _⟩ := hout
  refine Eq.trans (congrArg (fun o => Option.bind o _) e2) ?_
  rw [Option.bind_some]
  show ((szO _).bind _) = _
  rw [szO_ok (by exact Nat.le_of_ble_eq_true rfl), Option.bind_some]
  decide +kernel
end Abs
open PySem PySem.W PyProof.Rows
set_option maxHeartbeats 0 in
theorem PySem.Challenge.cw_trueroom_k20_whole_words_of_shears_holds : PySem.Challenge.rw_trueroom_k20_whole_words_of_shears.Holds := by
  w_on; o_law; k_head; (case hw => w_witness2)
  k_fill
  refine L2.walk_of (l := PySem.Challenge.rw_trueroom_k20_whole_words_of_shears) (n := 63) (k := 9) (x := "script") (CX := fun _ => L2.CX0) (sp := fun w => Abs.spR _ Abs.R_law) rfl (by decide) rfl ⟨rfl, by decide, by decide⟩ (fun w h Y => PySem.W.kIn_of Y) ?F (fun _ _ a ns hl _ hS => Abs.sp_law hS ⟨ns, rfl, rfl, true, Abs.law_true ns hl, rfl⟩) (fun _ _ _ _ _ h => h)
  case F =>
    intro w mg fa h KX G hmg
    refine' Abs.all_mk KX G hmg ?a__law_dice ?l__law_dice ?c__law_dice ?k__law_dice ?a__law_roll ?l__law_roll ?c__law_roll ?k__law_roll ?a__law_step ?l__law_step ?c__law_step ?k__law_step ?a__law_drawn ?l__law_drawn ?c__law_drawn ?k__law_drawn ?a__law_still ?l__law_still ?c__law_still ?k__law_still ?a_is_within ?l_is_within ?c_is_within ?k_is_within ?a_is_integer ?l_is_integer ?c_is_integer ?k_is_integer ?a_are_two ?l_are_two ?c_are_two ?k_are_two ?a_is_whole_move_of ?l_is_whole_move_of ?c_is_whole_move_of ?k_is_whole_move_of ?a_require_whole_move ?l_require_whole_move ?c_require_whole_move ?k_require_whole_move ?a_led_in ?l_led_in ?c_led_in ?k_led_in ?a_led_rows ?l_led_rows ?c_led_rows ?k_led_rows ?a_led_behind ?l_led_behind ?c_led_behind ?k_led_behind ?a__law_made ?l__law_made ?c__law_made ?k__law_made ?a_is_whole_move ?l_is_whole_move ?c_is_whole_move ?k_is_whole_move ?a_common ?l_common ?c_common ?k_common ?a_is_point_of ?l_is_point_of ?c_is_point_of ?k_is_point_of ?a_is_whole_in ?l_is_whole_in ?c_is_whole_in ?k_is_whole_in ?a_require_points ?l_require_points ?c_require_points ?k_require_points ?a_led ?l_led ?c_led ?k_led ?a_require_rows ?l_require_rows ?c_require_rows ?k_require_rows ?a_do_lead ?l_do_lead ?c_do_lead ?k_do_lead ?a_take_in ?l_take_in ?c_take_in ?k_take_in ?a_clear_in ?l_clear_in ?c_clear_in ?k_clear_in ?a_form_in ?l_form_in ?c_form_in ?k_form_in ?a_is_form_like ?l_is_form_like ?c_is_form_like ?k_is_form_like ?a_is_same_paper ?l_is_same_paper ?c_is_same_paper ?k_is_same_paper ?a__law_back ?l__law_back ?c__law_back ?k__law_back ?a__law_undone ?l__law_undone ?c__law_undone ?k__law_undone ?a_back_rows ?l_back_rows ?c_back_rows ?k_back_rows ?a_move_in ?l_move_in ?c_move_in ?k_move_in ?a_same_paper ?l_same_paper ?c_same_paper ?k_same_paper ?a__law_word_right ?l__law_word_right ?c__law_word_right ?k__law_word_right ?a__law_one_of ?l__law_one_of ?c__law_one_of ?k__law_one_of ?a__law_times ?l__law_times ?c__law_times ?k__law_times ?a__law_again_right ?l__law_again_right ?c__law_again_right ?k__law_again_right ?a__law_common ?l__law_common ?c__law_common ?k__law_common ?a_whole_form ?l_whole_form ?c_whole_form ?k_whole_form ?a__law_pairs_right ?l__law_pairs_right ?c__law_pairs_right ?k__law_pairs_right ?a_law ?l_law ?c_law ?k_law ?z_abs ?z_all ?z_any ?z_bool ?z_c_GREAT ?z_c_MOST_POINTS ?z_c_MOVE ?z_c_UNLIKE ?z_int ?z_isinstance ?z_len ?z_list ?z_max ?z_min ?z_range ?z_str ?z_tuple ?z_zip
    (case a__law_dice => k_is); (case l__law_dice => k_is); (case c__law_dice => k_is); (case k__law_dice => k_is); (case a__law_roll => k_is); (case l__law_roll => k_is); (case c__law_roll => k_is); (case k__law_roll => k_is); (case a__law_step => k_is); (case l__law_step => k_is); (case c__law_step => k_is); (case k__law_step => k_is)
    (case a__law_drawn => k_is); (case l__law_drawn => k_is); (case c__law_drawn => k_is); (case k__law_drawn => k_is); (case a__law_still => k_is); (case l__law_still => k_is); (case c__law_still => k_is); (case k__law_still => k_is); (case a_is_within => k_is); (case l_is_within => k_is); (case c_is_within => k_is); (case k_is_within => k_is)
    (case a_is_integer => k_is); (case l_is_integer => k_is); (case c_is_integer => k_is); (case k_is_integer => k_is); (case a_are_two => k_is); (case l_are_two => k_is); (case c_are_two => k_is); (case k_are_two => k_is); (case a_is_whole_move_of => k_is); (case l_is_whole_move_of => k_is); (case c_is_whole_move_of => k_is); (case k_is_whole_move_of => k_is)
    (case a_require_whole_move => k_is); (case l_require_whole_move => k_is); (case c_require_whole_move => k_is); (case k_require_whole_move => k_is); (case a_led_in => k_is); (case l_led_in => k_is); (case c_led_in => k_is); (case k_led_in => k_is); (case a_led_rows => k_is); (case l_led_rows => k_is); (case c_led_rows => k_is); (case k_led_rows => k_is)
    (case a_led_behind => k_is); (case l_led_behind => k_is); (case c_led_behind => k_is); (case k_led_behind => k_is); (case a__law_made => k_is); (case l__law_made => k_is); (case c__law_made => k_is); (case k__law_made => k_is); (case a_is_whole_move => k_is); (case l_is_whole_move => k_is); (case c_is_whole_move => k_is); (case k_is_whole_move => k_is)
    (case a_common => k_is); (case l_common => k_is); (case c_common => k_is); (case k_common => k_is); (case a_is_point_of => k_is); (case l_is_point_of => k_is); (case c_is_point_of => k_is); (case k_is_point_of => k_is); (case a_is_whole_in => k_is); (case l_is_whole_in => k_is); (case c_is_whole_in => k_is); (case k_is_whole_in => k_is)
    (case a_require_points => k_is); (case l_require_points => k_is); (case c_require_points => k_is); (case k_require_points => k_is); (case a_led => k_is); (case l_led => k_is); (case c_led => k_is); (case k_led => k_is); (case a_require_rows => k_is); (case l_require_rows => k_is); (case c_require_rows => k_is); (case k_require_rows => k_is)
    (case a_do_lead => k_is); (case l_do_lead => k_is); (case c_do_lead => k_is); (case k_do_lead => k_is); (case a_take_in => k_is); (case l_take_in => k_is); (case c_take_in => k_is); (case k_take_in => k_is); (case a_clear_in => k_is); (case l_clear_in => k_is); (case c_clear_in => k_is); (case k_clear_in => k_is)
    (case a_form_in => k_is); (case l_form_in => k_is); (case c_form_in => k_is); (case k_form_in => k_is); (case a_is_form_like => k_is); (case l_is_form_like => k_is); (case c_is_form_like => k_is); (case k_is_form_like => k_is); (case a_is_same_paper => k_is); (case l_is_same_paper => k_is); (case c_is_same_paper => k_is); (case k_is_same_paper => k_is)
    (case a__law_back => k_is); (case l__law_back => k_is); (case c__law_back => k_is); (case k__law_back => k_is); (case a__law_undone => k_is); (case l__law_undone => k_is); (case c__law_undone => k_is); (case k__law_undone => k_is); (case a_back_rows => k_is); (case l_back_rows => k_is); (case c_back_rows => k_is); (case k_back_rows => k_is)
    (case a_move_in => k_is); (case l_move_in => k_is); (case c_move_in => k_is); (case k_move_in => k_is); (case a_same_paper => k_is); (case l_same_paper => k_is); (case c_same_paper => k_is); (case k_same_paper => k_is); (case a__law_word_right => k_is); (case l__law_word_right => k_is); (case c__law_word_right => k_is); (case k__law_word_right => k_is)
    (case a__law_one_of => k_is); (case l__law_one_of => k_is); (case c__law_one_of => k_is); (case k__law_one_of => k_is); (case a__law_times => k_is); (case l__law_times => k_is); (case c__law_times => k_is); (case k__law_times => k_is); (case a__law_again_right => k_is); (case l__law_again_right => k_is); (case c__law_again_right => k_is); (case k__law_again_right => k_is)
    (case a__law_common => k_is); (case l__law_common => k_is); (case c__law_common => k_is); (case k__law_common => k_is); (case a_whole_form => k_is); (case l_whole_form => k_is); (case c_whole_form => k_is); (case k_whole_form => k_is); (case a__law_pairs_right => k_is); (case l__law_pairs_right => k_is); (case c__law_pairs_right => k_is); (case k__law_pairs_right => k_is)
    (case a_law => k_is); (case l_law => k_is); (case c_law => k_is); (case k_law => k_is); (case z_abs => k_is); (case z_all => k_is); (case z_any => k_is); (case z_bool => k_is); (case z_c_GREAT => k_is); (case z_c_MOST_POINTS => k_is); (case z_c_MOVE => k_is); (case z_c_UNLIKE => k_is)
    (case z_int => k_is); (case z_isinstance => k_is); (case z_len => k_is); (case z_list => k_is); (case z_max => k_is); (case z_min => k_is); (case z_range => k_is); (case z_str => k_is); (case z_tuple => k_is); (case z_zip => k_is)
