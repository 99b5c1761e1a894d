import PyProof.Rows.All
import Wide.All
import OpenK.AllK
import Wide.FinOn
import HandS.ForMost
import HandS.IsInst
import HandS.Style
import HandS.Wide
import HandS.TupAny
import KE.DataEq
import HandS.Flow
import HandS.Defaults
import PySem.Challenge.RW_markpieces_k01_signs_and_names
import HandS.Head0
import HandS.Head1
import HandS.Head2
import HandS.HeadEnd
import HandS.HeadHook1
import HandS.HeadHook2
import HandS.More
import HandS.WordsExc
import Lean
set_option Elab.async false
set_option linter.all false
set_option maxRecDepth 100000
set_option maxHeartbeats 4000000
namespace Mx
open PySem PySem.Spec PyProof.Rows L2

/-- a value: tuples by what they hold; a mutable object by its place in the store -/
inductive Val where
  | non | bl (b : Bool) | int (i : Int) | str (x : List Nat) | tup (xs : List Val) | kl (xs : List Val) | loc (n : Nat) | ext (a : Addr)
inductive Ob where
  | lst (xs : List Val)
/-- a list that never changes: the script, a list of the text's own -/
def SqF (K : PySem.W.Frag) (H : Hp) (a : Addr) (xs : List V) : Prop :=
  (∃ o, H a = some (.frz o (.lst xs))) ∨ ∃ (o : Obj) (its : Array Value) (n : Nat), K.lookup a = some o ∧ o.cls = .type "list" ∧ o.dict = none ∧ o.data = .seq its n ∧ its.size ≤ sizeLine ∧ Vals xs its.toList
theorem SqF.sq {K : PySem.W.Frag} {H : Hp} {a : Addr} {xs : List V} (h : SqF K H a xs) : SqL K H a xs := h.elim (fun h => .inl (.inr h)) .inr
abbrev Sto := List Ob
abbrev Ev := List (Option Val)
/-- an exception that is raised: its class, its fields (none: it bears none) -/
structure Exn where
  cls : Addr
  fs : Option (List (Str × Val))
inductive Out (α : Type) where
  | ok (a : α) (S : Sto) | err (x : Exn) (S : Sto) | bad
abbrev M (α : Type) := Sto → Out α
def Out.bind {α β : Type} (o : Out α) (f : α → M β) : Out β := match o with
  | .ok a S => f a S
  | .err x S => .err x S
  | .bad => .bad

mutual
def VR (K : PySem.W.Frag) (io : List Addr) (H : Hp) : Val → V → Prop
  | .non, v => v = .non
  | .bl b, v => v = .bl b
  | .int i, v => v = .int i
  | .str x, v => v = .str ⟨x.toArray⟩
  | .tup xs, v => ∃ a vs, v = .ref a ∧ SqT K H a vs ∧ VRs K io H xs vs
  | .kl xs, v => ∃ a vs, v = .ref a ∧ SqF K H a vs ∧ VRs K io H xs vs
  | .loc n, v => ∃ a, io[n]? = some a ∧ v = .ref a
  | .ext a, v => v = .ref a
def VRs (K : PySem.W.Frag) (io : List Addr) (H : Hp) : List Val → List V → Prop
  | [], vs => vs = []
  | x :: xs, vs => ∃ v ws, vs = v :: ws ∧ VR K io H x v ∧ VRs K io H xs ws
end
def OR (K : PySem.W.Frag) (io : List Addr) (H : Hp) : Ob → Addr → Prop
  | .lst xs, a => ∃ vs, H a = some (.lst vs) ∧ VRs K io H xs vs

structure SR (K : PySem.W.Frag) (io : List Addr) (H : Hp) (S : Sto) : Prop where
  len : io.length = S.length
  inj : ∀ (n m : Nat) (a : Addr), io[n]? = some a → io[m]? = some a → n = m
  obj : ∀ (n : Nat) (a : Addr) (o : Ob), io[n]? = some a → S[n]? = some o → OR K io H o a
/-- what is known grows -/
structure Le (K : PySem.W.Frag) (io : List Addr) (H : Hp) (io' : List Addr) (H' : Hp) : Prop where
  ia : ∀ (n : Nat) (a : Addr), io[n]? = some a → io'[n]? = some a
  tu : ∀ (a : Addr) (xs : List V), SqT K H a xs → SqT K H' a xs
  fz : ∀ (a : Addr) (xs : List V), SqF K H a xs → SqF K H' a xs
  fr : ∀ (a : Addr) (o : HO), H a = some o → a ∉ io → H' a = some o ∧ a ∉ io'

section
variable {K : PySem.W.Frag} {io io1 io2 io' : List Addr} {H H1 H2 H' : Hp} {S : Sto}
theorem Le.refl : Le K io H io H := ⟨fun _ _ h => h, fun _ _ h => h, fun _ _ h => h, fun _ _ h k => ⟨h, k⟩⟩
theorem Le.trans (a : Le K io H io1 H1) (b : Le K io1 H1 io2 H2) : Le K io H io2 H2 := ⟨fun n x h => b.ia n x (a.ia n x h), fun n x h => b.tu n x (a.tu n x h), fun n x h => b.fz n x (a.fz n x h), fun x o h k => b.fr x o (a.fr x o h k).1 (a.fr x o h k).2⟩
mutual
theorem VR.mono (l : Le K io H io' H') : ∀ (x : Val) (v : V), VR K io H x v → VR K io' H' x v
  | .non, _, h => h
  | .bl _, _, h => h
  | .int _, _, h => h
  | .str _, _, h => h
  | .ext _, _, h => h
  | .loc n, _, ⟨a, h, e⟩ => ⟨a, l.ia n a h, e⟩
  | .tup xs, _, ⟨a, vs, e, h, k⟩ => ⟨a, vs, e, l.tu a vs h, VRs.mono l xs vs k⟩
  | .kl xs, _, ⟨a, vs, e, h, k⟩ => ⟨a, vs, e, l.fz a vs h, VRs.mono l xs vs k⟩
theorem VRs.mono (l : Le K io H io' H') : ∀ (xs : List Val) (vs : List V), VRs K io H xs vs → VRs K io' H' xs vs
  | [], _, h => h
  | x :: xs, _, ⟨v, ws, e, h, k⟩ => ⟨v, ws, e, VR.mono l x v h, VRs.mono l xs ws k⟩
end
mutual
theorem VR.grow (l : ∀ (n : Nat) (a : Addr), io[n]? = some a → io'[n]? = some a) : ∀ (x : Val) (v : V), VR K io H x v → VR K io' H x v
  | .non, _, h => h
  | .bl _, _, h => h
  | .int _, _, h => h
  | .str _, _, h => h
  | .ext _, _, h => h
  | .loc n, _, ⟨a, h, e⟩ => ⟨a, l n a h, e⟩
  | .tup xs, _, ⟨a, vs, e, h, k⟩ => ⟨a, vs, e, h, VRs.grow l xs vs k⟩
  | .kl xs, _, ⟨a, vs, e, h, k⟩ => ⟨a, vs, e, h, VRs.grow l xs vs k⟩
theorem VRs.grow (l : ∀ (n : Nat) (a : Addr), io[n]? = some a → io'[n]? = some a) : ∀ (xs : List Val) (vs : List V), VRs K io H xs vs → VRs K io' H xs vs
  | [], _, h => h
  | x :: xs, _, ⟨v, ws, e, h, k⟩ => ⟨v, ws, e, VR.grow l x v h, VRs.grow l xs ws k⟩
end
theorem VRs.length : ∀ {xs : List Val} {vs : List V}, VRs K io H xs vs → vs.length = xs.length
  | [], _, h => by cases h; rfl
  | x :: xs, _, ⟨v, ws, e, _, k⟩ => by rw [e, List.length_cons, List.length_cons, VRs.length k]
theorem VRs.app : ∀ {xs ys : List Val} {vs ws : List V}, VRs K io H xs vs → VRs K io H ys ws → VRs K io H (xs ++ ys) (vs ++ ws)
  | [], _, _, _, h, k => by cases h; exact k
  | x :: xs, _, _, _, ⟨v, us, e, h, r⟩, k => by subst e; exact ⟨v, us ++ _, rfl, h, VRs.app r k⟩
theorem VRs.get : ∀ {xs : List Val} {vs : List V} {i : Nat} {x : Val}, VRs K io H xs vs → xs[i]? = some x → ∃ v, vs[i]? = some v ∧ VR K io H x v
  | [], _, i, _, _, e => by simp at e
  | y :: ys, _, 0, x, ⟨v, ws, e1, h, _⟩, e => by subst e1; simp at e; subst e; exact ⟨v, rfl, h⟩
  | y :: ys, _, i + 1, x, ⟨v, ws, e1, _, k⟩, e => by
    subst e1
    obtain ⟨u, e2, r⟩ := VRs.get (i := i) k (by simpa using e)
    exact ⟨u, by simpa using e2, r⟩
theorem VRs.getv {xs : List Val} {vs : List V} {i : Nat} {v : V} (h : VRs K io H xs vs) (e : vs[i]? = some v) : ∃ x, xs[i]? = some x ∧ VR K io H x v := by
  have hl := h.length
  have hi : i < xs.length := by
    have := (List.getElem?_eq_some_iff.mp e).1
    omega
  obtain ⟨u, e2, r⟩ := h.get (List.getElem?_eq_getElem hi)
  rw [e] at e2
  cases e2
  exact ⟨_, List.getElem?_eq_getElem hi, r⟩
theorem VRs.take : ∀ {xs : List Val} {vs : List V} (n : Nat), VRs K io H xs vs → VRs K io H (xs.take n) (vs.take n)
  | _, _, 0, _ => by rw [List.take_zero, List.take_zero]; rfl
  | [], _, n + 1, h => by cases h; rfl
  | x :: xs, _, n + 1, ⟨v, ws, e, h, k⟩ => by subst e; exact ⟨v, ws.take n, rfl, h, VRs.take n k⟩
theorem VRs.drop : ∀ {xs : List Val} {vs : List V} (n : Nat), VRs K io H xs vs → VRs K io H (xs.drop n) (vs.drop n)
  | _, _, 0, h => h
  | [], _, n + 1, h => by cases h; rfl
  | x :: xs, _, n + 1, ⟨v, ws, e, h, k⟩ => by subst e; exact VRs.drop n k
theorem VRs.set : ∀ {xs : List Val} {vs : List V} (i : Nat) {x : Val} {v : V}, VR K io H x v → VRs K io H xs vs → VRs K io H (xs.set i x) (vs.set i v)
  | [], _, _, _, _, _, h => by cases h; rfl
  | _ :: _, _, 0, _, _, r, ⟨u, ws, e, _, k⟩ => by subst e; exact ⟨_, ws, rfl, r, k⟩
  | _ :: _, _, i + 1, _, _, r, ⟨u, ws, e, h, k⟩ => by subst e; exact ⟨u, ws.set i _, rfl, h, VRs.set i r k⟩
theorem VRs.rev : ∀ {xs : List Val} {vs : List V}, VRs K io H xs vs → VRs K io H xs.reverse vs.reverse
  | [], _, h => by cases h; rfl
  | x :: xs, _, ⟨v, ws, e, h, k⟩ => by
    subst e
    rw [List.reverse_cons, List.reverse_cons]
    exact (VRs.rev k).app ⟨v, [], rfl, h, rfl⟩
theorem VRs.one {x : Val} {v : V} (h : VR K io H x v) : VRs K io H [x] [v] := ⟨v, [], rfl, h, rfl⟩
theorem VRs.mapI : ∀ (ns : List Int), VRs K io H (ns.map Val.int) (ns.map V.int)
  | [] => rfl
  | n :: ns => ⟨_, _, rfl, rfl, VRs.mapI ns⟩
/-- texts and numbers that stand in a list of values -/
theorem VRs.ints : ∀ {ns : List Int} {vs : List V}, VRs K io H (ns.map Val.int) vs → vs = ns.map V.int
  | [], _, h => h
  | n :: ns, _, ⟨v, ws, e, h, k⟩ => by
    have h' : v = .int n := h
    rw [e, h', VRs.ints k]; rfl
theorem VRs.bls : ∀ {ns : List Bool} {vs : List V}, VRs K io H (ns.map Val.bl) vs → vs = ns.map V.bl
  | [], _, h => h
  | n :: ns, _, ⟨v, ws, e, h, k⟩ => by
    have h' : v = .bl n := h
    rw [e, h', VRs.bls k]; rfl
theorem VRs.strs : ∀ {ns : List (List Nat)} {vs : List V}, VRs K io H (ns.map Val.str) vs → vs = ns.map fun x => V.str ⟨x.toArray⟩
  | [], _, h => h
  | n :: ns, _, ⟨v, ws, e, h, k⟩ => by
    have h' : v = .str ⟨n.toArray⟩ := h
    rw [e, h', VRs.strs k]; rfl

theorem rd_new {p a : Addr} {o u : HO} (hp : H p = none) (h : Rd H a u) : Rd (upd H p o) a u := by
  rcases h with h | ⟨x, h⟩
  · exact .inl (by rw [upd_ne (ne_of_none h hp)]; exact h)
  · exact .inr ⟨x, by rw [upd_ne (ne_of_none h hp)]; exact h⟩
theorem rd_mut {p a : Addr} {xs ys zs : List V} (hp : H p = some (.lst xs)) (h : Rd H a (.tup zs)) : Rd (upd H p (.lst ys)) a (.tup zs) := by
  rcases h with h | ⟨x, h⟩
  · exact .inl (by rw [upd_ne (ne_of h hp (by intro z; cases z))]; exact h)
  · exact .inr ⟨x, by rw [upd_ne (ne_of h hp (by intro z; cases z))]; exact h⟩
theorem fz_new {p a : Addr} {o : HO} {xs : List V} (hp : H p = none) (h : SqF K H a xs) : SqF K (upd H p o) a xs := by
  rcases h with ⟨x, h⟩ | h
  · exact .inl ⟨x, by rw [upd_ne (ne_of_none h hp)]; exact h⟩
  · exact .inr h
theorem fz_mut {p a : Addr} {xs ys zs : List V} (hp : H p = some (.lst xs)) (h : SqF K H a zs) : SqF K (upd H p (.lst ys)) a zs := by
  rcases h with ⟨x, h⟩ | h
  · exact .inl ⟨x, by rw [upd_ne (ne_of h hp (by intro z; cases z))]; exact h⟩
  · exact .inr h
theorem Le.new {p : Addr} {o : HO} (hp : H p = none) : Le K io H io (upd H p o) := ⟨fun _ _ h => h, fun a xs h => by
  rcases h with h | h
  · exact .inl (rd_new hp h)
  · exact .inr h, fun a xs h => fz_new hp h, fun a o h k => ⟨by rw [upd_ne (ne_of_none h hp)]; exact h, k⟩⟩
theorem Le.newL {p : Addr} {o : HO} (hp : H p = none) : Le K io H (io ++ [p]) (upd H p o) := ⟨fun n a h => by
  have hn := (List.getElem?_eq_some_iff.mp h).1
  rw [List.getElem?_append_left hn]
  exact h, (Le.new (K := K) (io := io) hp).tu, (Le.new (K := K) (io := io) hp).fz, fun a o h k => ⟨by rw [upd_ne (ne_of_none h hp)]; exact h, fun z => by
    rcases List.mem_append.mp z with z | z
    · exact k z
    · exact ne_of_none h hp (List.mem_singleton.mp z)⟩⟩
/-- a list that the store does not hold is put into it -/
theorem Le.own {p : Addr} (l : Le K io H io' H') (h0 : H p = none) (hp : p ∉ io') : Le K io H (io' ++ [p]) H' := by
  refine ⟨fun n a h => ?_, l.tu, l.fz, fun a o h k => ⟨(l.fr a o h k).1, fun z => ?_⟩⟩
  · have h := l.ia n a h
    have hn := (List.getElem?_eq_some_iff.mp h).1
    rw [List.getElem?_append_left hn]
    exact h
  · rcases List.mem_append.mp z with z | z
    · exact (l.fr a o h k).2 z
    · rw [List.mem_singleton.mp z, h0] at h
      cases h
theorem SR.own {p : Addr} {xs : List Val} {vs : List V} (r : SR K io H S) (hp : p ∉ io) (hv : H p = some (.lst vs)) (h : VRs K io H xs vs) : SR K (io ++ [p]) H (S ++ [.lst xs]) := by
  have up : ∀ (n : Nat) (a : Addr), io[n]? = some a → (io ++ [p])[n]? = some a := fun n a h => by
    rw [List.getElem?_append_left (List.getElem?_eq_some_iff.mp h).1]; exact h
  have lim : ∀ (n : Nat) (a : Addr), (io ++ [p])[n]? = some a → (io[n]? = some a ∧ n < io.length) ∨ (n = io.length ∧ a = p) := fun n a e => by
    by_cases hn : n < io.length
    · rw [List.getElem?_append_left hn] at e
      exact .inl ⟨e, hn⟩
    · have hl := (List.getElem?_eq_some_iff.mp e).1
      rw [List.length_append, List.length_singleton] at hl
      have e0 : n = io.length := by omega
      subst e0
      rw [List.getElem?_append_right (Nat.le_refl _), Nat.sub_self] at e
      exact .inr ⟨rfl, (Option.some.inj e).symm⟩
  have mo : ∀ (x : List Val) (v : List V), VRs K io H x v → VRs K (io ++ [p]) H x v := fun x v h => VRs.grow up x v h
  refine ⟨by rw [List.length_append, List.length_append, r.len]; rfl, fun n m a h1 h2 => ?_, fun n a o h1 h2 => ?_⟩
  · rcases lim n a h1 with ⟨e1, _⟩ | ⟨rfl, rfl⟩
    · rcases lim m a h2 with ⟨e2, _⟩ | ⟨rfl, rfl⟩
      · exact r.inj n m a e1 e2
      · exact absurd (List.mem_of_getElem? e1) hp
    · rcases lim m a h2 with ⟨e2, _⟩ | ⟨h, _⟩
      · exact absurd (List.mem_of_getElem? e2) hp
      · exact h.symm
  · rcases lim n a h1 with ⟨e1, hn⟩ | ⟨rfl, rfl⟩
    · rw [List.getElem?_append_left (by rw [← r.len]; exact hn)] at h2
      have q := r.obj n a o e1 h2
      cases o with
      | lst ys => obtain ⟨ws, e, k⟩ := q; exact ⟨ws, e, mo _ _ k⟩
    · rw [r.len, List.getElem?_append_right (Nat.le_refl _), Nat.sub_self] at h2
      have e := Option.some.inj h2
      subst e
      exact ⟨vs, hv, mo _ _ h⟩
theorem Le.mut {p : Addr} {n : Nat} {xs ys : List V} (hp : H p = some (.lst xs)) (hi : io[n]? = some p) : Le K io H io (upd H p (.lst ys)) := ⟨fun _ _ h => h, fun a xs h => by
  rcases h with h | h
  · exact .inl (rd_mut hp h)
  · exact .inr h, fun a xs h => fz_mut hp h, fun a o h k => ⟨by rw [upd_ne fun z => k (by rw [z]; exact List.mem_of_getElem? hi)]; exact h, k⟩⟩
theorem OR.new {p a : Addr} {u : HO} {o : Ob} (hp : H p = none) (l : Le K io H io' (upd H p u)) (h : OR K io H o a) : OR K io' (upd H p u) o a := by
  cases o with
  | lst xs =>
    obtain ⟨vs, e, k⟩ := h
    exact ⟨vs, by rw [upd_ne (ne_of_none e hp)]; exact e, VRs.mono l _ _ k⟩
theorem OR.some {a : Addr} {o : Ob} (h : OR K io H o a) : H a ≠ none := by
  cases o with
  | lst xs => obtain ⟨vs, e, _⟩ := h; rw [e]; intro z; cases z
/-- a new tuple (or another thing that the store does not hold) -/
theorem SR.new {p : Addr} {u : HO} (r : SR K io H S) (hp : H p = none) : SR K io (upd H p u) S :=
  ⟨r.len, r.inj, fun n a o h1 h2 => (r.obj n a o h1 h2).new hp (Le.new hp)⟩
theorem SR.at {n : Nat} {o : Ob} (r : SR K io H S) (h : S[n]? = some o) : ∃ a, io[n]? = some a ∧ OR K io H o a := by
  have hn := (List.getElem?_eq_some_iff.mp h).1
  have hi : n < io.length := by rw [r.len]; exact hn
  exact ⟨io[n], List.getElem?_eq_getElem hi, r.obj n _ o (List.getElem?_eq_getElem hi) h⟩
theorem SR.is {n : Nat} {a : Addr} {o : Ob} (r : SR K io H S) (h : S[n]? = some o) (e : io[n]? = some a) : OR K io H o a := r.obj n a o e h
/-- a new list -/
theorem SR.newL {p : Addr} {xs : List Val} {vs : List V} (r : SR K io H S) (hp : H p = none) (h : VRs K io H xs vs) : SR K (io ++ [p]) (upd H p (.lst vs)) (S ++ [.lst xs]) := by
  have L : Le K io H (io ++ [p]) (upd H p (.lst vs)) := Le.newL hp
  have lim : ∀ (n : Nat) (a : Addr), (io ++ [p])[n]? = some a → (io[n]? = some a ∧ n < io.length) ∨ (n = io.length ∧ a = p) := fun n a e => by
    by_cases hn : n < io.length
    · rw [List.getElem?_append_left hn] at e
      exact .inl ⟨e, hn⟩
    · have hl := (List.getElem?_eq_some_iff.mp e).1
      rw [List.length_append, List.length_singleton] at hl
      have e0 : n = io.length := by omega
      subst e0
      rw [List.getElem?_append_right (Nat.le_refl _), Nat.sub_self] at e
      exact .inr ⟨rfl, (Option.some.inj e).symm⟩
  have nep : ∀ (n : Nat) (a : Addr), io[n]? = some a → a ≠ p := fun n a e z => by
    have hn := (List.getElem?_eq_some_iff.mp e).1
    rw [r.len] at hn
    have := (r.obj n a _ e (List.getElem?_eq_getElem hn)).some
    rw [z] at this
    exact this hp
  refine ⟨by rw [List.length_append, List.length_append, r.len]; rfl, fun n m a h1 h2 => ?_, fun n a o h1 h2 => ?_⟩
  · rcases lim n a h1 with ⟨e1, _⟩ | ⟨rfl, rfl⟩
    · rcases lim m a h2 with ⟨e2, _⟩ | ⟨rfl, rfl⟩
      · exact r.inj n m a e1 e2
      · exact absurd rfl (nep n a e1)
    · rcases lim m a h2 with ⟨e2, _⟩ | ⟨h, _⟩
      · exact absurd rfl (nep m a e2)
      · exact h.symm
  · rcases lim n a h1 with ⟨e1, hn⟩ | ⟨rfl, rfl⟩
    · rw [List.getElem?_append_left (by rw [← r.len]; exact hn)] at h2
      exact (r.obj n a o e1 h2).new hp L
    · rw [r.len, List.getElem?_append_right (Nat.le_refl _), Nat.sub_self] at h2
      have e := Option.some.inj h2
      subst e
      exact ⟨vs, upd_same, VRs.mono L _ _ h⟩
/-- a list is changed -/
theorem SR.upd {n : Nat} {a : Addr} {xs0 xs : List Val} {vs0 vs : List V} (r : SR K io H S) (hn : io[n]? = some a) (h0 : S[n]? = some (.lst xs0)) (ha : H a = some (.lst vs0)) (h : VRs K io H xs vs) :
    SR K io (upd H a (.lst vs)) (S.set n (.lst xs)) := by
  have L : Le K io H io (L2.upd H a (.lst vs)) := Le.mut ha hn
  refine ⟨by rw [List.length_set]; exact r.len, r.inj, fun m b o h1 h2 => ?_⟩
  by_cases e : m = n
  · subst e
    have eb : b = a := Option.some.inj (h1.symm.trans hn)
    subst eb
    have hl := (List.getElem?_eq_some_iff.mp h0).1
    rw [List.getElem?_set_self hl] at h2
    have e := Option.some.inj h2
    subst e
    exact ⟨vs, upd_same, VRs.mono L _ _ h⟩
  · rw [List.getElem?_set_ne (Ne.symm e)] at h2
    have nb : b ≠ a := fun z => e (r.inj m n a (by rw [← z]; exact h1) hn)
    have q := r.obj m b o h1 h2
    cases o with
    | lst ys =>
      obtain ⟨ws, e1, k⟩ := q
      exact ⟨ws, by rw [upd_ne nb]; exact e1, VRs.mono L _ _ k⟩
end
end Mx

set_option linter.all false
set_option maxRecDepth 100000
set_option maxHeartbeats 4000000
namespace Mx
open PySem PySem.Spec PyProof.Rows L2

/-- how an exception lies in the heap -/
def XR (K : PySem.W.Frag) (io : List Addr) (H : Hp) (x : Exn) (c : Value) (d : Option Addr) : Prop :=
  c = .ref x.cls ∧ match x.fs with
    | none => d = none
    | some l => ∃ p vs, d = some p ∧ H p = some (.xd ((l.map (·.1)).zip vs)) ∧ VRs K io H (l.map (·.2)) vs

/-- what is wanted behind an outcome: R relates the outcome's thing to the machine's -/
def FinG {α β : Type} (K : PySem.W.Frag) (R : List Addr → Hp → α → β → Prop) (E : XK) (io : List Addr) (H : Hp) (Q : β → Hp → Prop) : Out α → Prop
  | .ok x S => ∀ io' H' v, Le K io H io' H' → SR K io' H' S → R io' H' x v → Q v H'
  | .err x S => ∀ io' H' c d, Le K io H io' H' → SR K io' H' S → XR K io' H' x c d → E c d H'
  | .bad => False
section
variable {α β γ δ : Type} {K : PySem.W.Frag} {R : List Addr → Hp → α → β → Prop} {R' : List Addr → Hp → γ → δ → Prop} {E : XK} {io io' : List Addr} {H H' : Hp} {Q : β → Hp → Prop}
theorem FinG.mono {o : Out α} (l : Le K io H io' H') (h : FinG K R E io H Q o) : FinG K R E io' H' Q o := by
  cases o with
  | ok x S => exact fun io2 H2 v l2 => h io2 H2 v (l.trans l2)
  | err x S => exact fun io2 H2 c d l2 => h io2 H2 c d (l.trans l2)
  | bad => exact h
theorem fin_ok {x : α} {v : β} {S : Sto} (h : FinG K R E io H Q (.ok x S)) (l : Le K io H io' H') (s : SR K io' H' S) (r : R io' H' x v) : Q v H' := h io' H' v l s r
theorem fin_here {x : α} {v : β} {S : Sto} (h : FinG K R E io H Q (.ok x S)) (s : SR K io H S) (r : R io H x v) : Q v H := h io H v Le.refl s r
/-- the first part's wish, from the whole's -/
theorem fin_bind {o : Out α} {f : α → M γ} {Q2 : δ → Hp → Prop} (h : FinG K R' E io H Q2 (o.bind f))
    (k : ∀ x S io1 H1 v, o = .ok x S → Le K io H io1 H1 → SR K io1 H1 S → R io1 H1 x v → FinG K R' E io1 H1 Q2 (f x S) → Q v H1) : FinG K R E io H Q o := by
  cases o with
  | ok x S => exact fun io1 H1 v l s r => k x S io1 H1 v rfl l s r (FinG.mono l h)
  | err x S => exact h
  | bad => exact h
end

structure ER (K : PySem.W.Frag) (io : List Addr) (H : Hp) (env : Ev) (σ : L2.St) : Prop where
  len : env.length = σ.length
  get : ∀ (i : Nat) (x : Val), env[i]? = some (some x) → ∃ v, σ[i]? = some (some v) ∧ VR K io H x v
section
variable {K : PySem.W.Frag} {io io' : List Addr} {H H' : Hp} {env : Ev} {σ : L2.St}
theorem ER.mono (l : Le K io H io' H') (h : ER K io H env σ) : ER K io' H' env σ := ⟨h.len, fun i x e => let ⟨v, e2, r⟩ := h.get i x e; ⟨v, e2, VR.mono l _ _ r⟩⟩
theorem ER.set {x : Val} {v : V} (i : Nat) (h : ER K io H env σ) (r : VR K io H x v) : ER K io H (env.set i (some x)) (σ.set i (some v)) := by
  refine ⟨by rw [List.length_set, List.length_set]; exact h.len, fun j y e => ?_⟩
  by_cases hj : j = i
  · subst hj
    have hl := (List.getElem?_eq_some_iff.mp e).1
    rw [List.length_set] at hl
    rw [List.getElem?_set_self hl] at e
    have e' := Option.some.inj (Option.some.inj e)
    subst e'
    exact ⟨v, by rw [List.getElem?_set_self (by rw [← h.len]; exact hl)], r⟩
  · rw [List.getElem?_set_ne (Ne.symm hj)] at e
    obtain ⟨w, e2, r2⟩ := h.get j y e
    exact ⟨w, by rw [List.getElem?_set_ne (Ne.symm hj)]; exact e2, r2⟩
def wip (env : Ev) : List Nat → Ev
  | [] => env
  | i :: r => (wip env r).set i none
end

/-- an argument's, a test's, a value's relation; a list that the store does not hold, new since the heap B -/
def RL (K : PySem.W.Frag) (B : Hp) (io : List Addr) (H : Hp) (xs : List Val) (v : V) : Prop := ∃ a vs, v = .ref a ∧ H a = some (.lst vs) ∧ B a = none ∧ a ∉ io ∧ VRs K io H xs vs
def RB : List Addr → Hp → Bool → Bool → Prop := fun _ _ b c => b = c

structure PEm (X : Cx) (E : XK) (e : Expr) (m : Ev → M Val) : Prop where
  ex : ∃ t, PE X e t ∧ ∀ io σ H env S Q, ER X.K io H env σ → SR X.K io H S → FinG X.K (VR X.K) E io H Q (m env S) → t σ H Q
structure PLm (X : Cx) (E : XK) (e : Expr) (m : Ev → M (List Val)) : Prop where
  ex : ∃ t, PE X e t ∧ ∀ io σ H env S Q, ER X.K io H env σ → SR X.K io H S → FinG X.K (RL X.K H) E io H Q (m env S) → t σ H Q
structure PTm (X : Cx) (E : XK) (e : Expr) (m : Ev → M Bool) : Prop where
  ex : ∃ t, PT X e t ∧ ∀ io σ H env S Q, ER X.K io H env σ → SR X.K io H S → FinG X.K RB E io H Q (m env S) → t σ H Q
structure PWm (X : Cx) (E : XK) (e : Expr) (m : Ev → M Bool) : Prop where
  ex : ∃ t, PW X e t ∧ ∀ io σ H env S Q, ER X.K io H env σ → SR X.K io H S → FinG X.K RB E io H Q (m env S) → t σ H Q
structure PAm (X : Cx) (E : XK) (es : List Expr) (m : Ev → M (List Val)) : Prop where
  ex : ∃ t, PA X es t ∧ ∀ io σ H env S Q, ER X.K io H env σ → SR X.K io H S → FinG X.K (VRs X.K) E io H Q (m env S) → t σ H Q

/-! ### the denotations -/
def pur {α : Type} (x : α) : M α := fun S => .ok x S
def bad {α : Type} : M α := fun _ => .bad
def mVar (i : Nat) : Ev → M Val := fun env S => match env[i]? with
  | some (some v) => .ok v S
  | _ => .bad
def mC (v : Val) : Ev → M Val := fun _ S => .ok v S
def mOp (g : Val → Val → M Val) (a b : Ev → M Val) : Ev → M Val := fun env S => (a env S).bind fun x S1 => (b env S1).bind fun y S2 => g x y S2
def mUn (g : Val → M Val) (a : Ev → M Val) : Ev → M Val := fun env S => (a env S).bind fun x S1 => g x S1
def mNil : Ev → M (List Val) := fun _ S => .ok [] S
def mCons (a : Ev → M Val) (r : Ev → M (List Val)) : Ev → M (List Val) := fun env S => (a env S).bind fun x S1 => (r env S1).bind fun xs S2 => .ok (x :: xs) S2
/-- the largest length that is served -/
def lim : Nat := 100000
def mTup (a : Ev → M (List Val)) : Ev → M Val := fun env S => (a env S).bind fun xs S1 => if xs.length ≤ lim then .ok (.tup xs) S1 else .bad
def mLst (a : Ev → M (List Val)) : Ev → M (List Val) := fun env S => (a env S).bind fun xs S1 => if xs.length ≤ lim then .ok xs S1 else .bad
def mNew (a : Ev → M (List Val)) : Ev → M Val := fun env S => (a env S).bind fun xs S1 => .ok (.loc S1.length) (S1 ++ [.lst xs])
def mIf (t : Ev → M Bool) (a b : Ev → M Val) : Ev → M Val := fun env S => (t env S).bind fun c S1 => if c = true then a env S1 else b env S1
def mNot (t : Ev → M Bool) : Ev → M Bool := fun env S => (t env S).bind fun c S1 => .ok (!c) S1
def mAnd (t u : Ev → M Bool) : Ev → M Bool := fun env S => (t env S).bind fun c S1 => if c = true then u env S1 else .ok false S1
def mOr (t u : Ev → M Bool) : Ev → M Bool := fun env S => (t env S).bind fun c S1 => if c = true then .ok true S1 else u env S1
def mBl (t : Ev → M Bool) : Ev → M Val := fun env S => (t env S).bind fun c S1 => .ok (.bl c) S1
def mTst (g : Val → Val → M Bool) (a b : Ev → M Val) : Ev → M Bool := fun env S => (a env S).bind fun x S1 => (b env S1).bind fun y S2 => g x y S2
def mChn (g g' : Val → Val → M Bool) (a b c : Ev → M Val) : Ev → M Bool := fun env S => (a env S).bind fun x S1 => (b env S1).bind fun y S2 => (g x y S2).bind fun k S3 =>
  if k = true then (c env S3).bind fun z S4 => g' y z S4 else .ok false S3
def truth : Val → M Bool
  | .non, S => .ok false S
  | .bl b, S => .ok b S
  | .int i, S => .ok (i != 0) S
  | .str x, S => if x.length ≤ lim then .ok (!x.isEmpty) S else .bad
  | .tup xs, S => .ok (!xs.isEmpty) S
  | .kl xs, S => .ok (!xs.isEmpty) S
  | .loc n, S => match S[n]? with
    | some (.lst xs) => .ok (!xs.isEmpty) S
    | none => .bad
  | .ext _, _ => .bad
def mTru (a : Ev → M Val) : Ev → M Bool := fun env S => (a env S).bind fun x S1 => truth x S1

theorem lim_le {n : Nat} (h : n ≤ lim) : n ≤ sizeLine := Nat.le_trans h (by decide)
theorem lim_lt {n : Nat} (h : n < lim) : n < sizeLine := Nat.lt_of_lt_of_le h (by decide)

section
variable {X : Cx} {E : XK} {a b c e : Expr} {es : List Expr} {ma mb mc : Ev → M Val} {ta tb : Ev → M Bool} {pos : Pos}
theorem pem_var {i : Nat} {x : Str} {pos : Pos} (hN : X.N[i]? = some x := by rfl) (hv : Vis X.env.scope x := by first | exact Or.inl rfl | exact Or.inr (Or.inl rfl) | exact Or.inr (Or.inr rfl)) (hd : (x == ("__debug__" : Str)) = false := by decide)
    (hcd : (x == ("__classdict__" : Str)) = false := by decide) : PEm X E (.Name x pos) (mVar i) := by
  refine ⟨tVar i, pe_var hN hv hd hcd, fun io σ H env S Q er sr h => ?_⟩
  unfold mVar at h
  cases e1 : env[i]? with
  | none => rw [e1] at h; exact h.elim
  | some o =>
    rw [e1] at h
    cases o with
    | none => exact h.elim
    | some x =>
      obtain ⟨v, e2, r⟩ := er.get i x e1
      exact ⟨v, e2, fin_here h sr r⟩
theorem pem_c {v : Val} {w : V} (he : PE X e (tC w)) (r : ∀ io H, VR X.K io H v w) : PEm X E e (mC v) :=
  ⟨tC w, he, fun io σ H env S Q er sr h => fin_here h sr (r io H)⟩
theorem pem_int {i j pos} : PEm X E (.Constant (.int i) j pos) (mC (.int i)) := pem_c pe_int fun _ _ => rfl
theorem pem_bl {b j pos} : PEm X E (.Constant (.bool b) j pos) (mC (.bl b)) := pem_c pe_bl fun _ _ => rfl
theorem pem_non {j pos} : PEm X E (.Constant .none j pos) (mC .non) := pem_c pe_non fun _ _ => rfl
theorem pem_str {x : Str} {z : List Nat} {j pos} (hz : x = ⟨z.toArray⟩ := by decide +kernel) : PEm X E (.Constant (.str x) j pos) (mC (.str z)) := pem_c pe_str fun _ _ => by rw [hz]; rfl
/-- a module's constant -/
theorem pem_glob {x : Str} {v : Val} {w : V} {u : Value} (hm : X.mg x = some u) (r : RelV w u) (q : ∀ io H, VR X.K io H v w) (hg : Gl X x := by rfl) (hd : (x == ("__debug__" : Str)) = false := by decide) : PEm X E (.Name x pos) (mC v) :=
  pem_c (pe_glob hg hm r hd) q

/-! ### two expressions -/
def OpM (X : Cx) (E : XK) (f : Value → Value → Sem Value) (g : Val → Val → M Val) : Prop :=
  ∃ r, OpR X f r ∧ ∀ io H S x y v w Q, SR X.K io H S → VR X.K io H x v → VR X.K io H y w → FinG X.K (VR X.K) E io H Q (g x y S) → r v w H Q
def TsM (X : Cx) (E : XK) (f : Value → Value → Sem Value) (g : Val → Val → M Bool) : Prop :=
  ∃ r, OpR X f r ∧ ∀ io H S x y v w Q, SR X.K io H S → VR X.K io H x v → VR X.K io H y w → FinG X.K RB E io H Q (g x y S) → r v w H (fun z H' => ∃ k, z = .bl k ∧ Q k H')
theorem run2 {ta tb : TE} {g : Val → Val → M γ} {R : List Addr → Hp → γ → δ → Prop} {k : V → V → Hp → Prop} {Q : δ → Hp → Prop} (ha : ∀ io σ H env S Q, ER X.K io H env σ → SR X.K io H S → FinG X.K (VR X.K) E io H Q (ma env S) → ta σ H Q)
    (hb : ∀ io σ H env S Q, ER X.K io H env σ → SR X.K io H S → FinG X.K (VR X.K) E io H Q (mb env S) → tb σ H Q) {io : List Addr} {σ : L2.St} {H : Hp} {env : Ev} {S : Sto} (er : ER X.K io H env σ) (sr : SR X.K io H S)
    (h : FinG X.K R E io H Q ((ma env S).bind fun x S1 => (mb env S1).bind fun y S2 => g x y S2))
    (fin : ∀ io2 H2 S2 x y v w, Le X.K io H io2 H2 → SR X.K io2 H2 S2 → VR X.K io2 H2 x v → VR X.K io2 H2 y w → FinG X.K R E io2 H2 Q (g x y S2) → k v w H2) :
    ta σ H fun v H1 => tb σ H1 fun w H2 => k v w H2 := by
  refine ha io σ H env S _ er sr (fin_bind h fun x S1 io1 H1 v _ l1 s1 r1 h1 => ?_)
  refine hb io1 σ H1 env S1 _ (er.mono l1) s1 (fin_bind h1 fun y S2 io2 H2 w _ l2 s2 r2 h2 => ?_)
  exact fin io2 H2 S2 x y v w (l1.trans l2) s2 (VR.mono l2 _ _ r1) r2 h2
theorem pem_op {op : Operator} {g : Val → Val → M Val} (ho : OpM X E (binaryOp op) g) (ha : PEm X E a ma) (hb : PEm X E b mb) : PEm X E (.BinOp a op b pos) (mOp g ma mb) := by
  obtain ⟨ta, pa, qa⟩ := ha.ex
  obtain ⟨tb, pb, qb⟩ := hb.ex
  obtain ⟨r, pr, qr⟩ := ho
  refine ⟨_, pe_op pr pa pb, fun io σ H env S Q er sr h => ?_⟩
  exact run2 qa qb er sr h fun io2 H2 S2 x y v w _ s2 r1 r2 h2 => qr io2 H2 S2 x y v w Q s2 r1 r2 h2
theorem ptm_cmp {op : CmpOp} {g : Val → Val → M Bool} (ho : TsM X E (compareOp op) g) (ha : PEm X E a ma) (hb : PEm X E b mb) (hm : behindInMarks op b = false := by first | exact nomark _ | rfl) : PTm X E (.Compare a [op] [b] pos) (mTst g ma mb) := by
  obtain ⟨ta, pa, qa⟩ := ha.ex
  obtain ⟨tb, pb, qb⟩ := hb.ex
  obtain ⟨r, pr, qr⟩ := ho
  refine ⟨_, pt_cmpR pr pa pb hm, fun io σ H env S Q er sr h => ?_⟩
  exact run2 qa qb er sr h fun io2 H2 S2 x y v w _ s2 r1 r2 h2 => qr io2 H2 S2 x y v w Q s2 r1 r2 h2
theorem pem_cmp {op : CmpOp} {g : Val → Val → M Bool} (ho : TsM X E (compareOp op) g) (ha : PEm X E a ma) (hb : PEm X E b mb) (hm : behindInMarks op b = false := by first | exact nomark _ | rfl) : PEm X E (.Compare a [op] [b] pos) (mBl (mTst g ma mb)) := by
  obtain ⟨ta, pa, qa⟩ := ha.ex
  obtain ⟨tb, pb, qb⟩ := hb.ex
  obtain ⟨r, pr, qr⟩ := ho
  have wk : OpR X (compareOp op) (fun v w H Q => r v w H fun z H' => ∃ k, z = .bl k ∧ Q (.bl k) H') := by
    intro pins s σ H x y v u Q I rx ry h
    exact thn (pr pins s σ H x y v u _ I rx ry h) fun u' s' ⟨z, H', I', rz, k, ez, q⟩ => ⟨z, H', I', rz, by rw [ez]; exact q⟩
  refine ⟨_, pe_cmpR wk pa pb hm, fun io σ H env S Q er sr h => ?_⟩
  have h' : FinG X.K RB E io H (fun k H' => Q (.bl k) H') (mTst g ma mb env S) := fin_bind h fun c S1 io1 H1 v _ l s r h1 => by
    cases (show c = v from r)
    exact fin_here h1 s rfl
  exact run2 qa qb er sr h' fun io2 H2 S2 x y v w _ s2 r1 r2 h2 => qr io2 H2 S2 x y v w _ s2 r1 r2 h2
theorem ptm_chn {op op' : CmpOp} {g g' : Val → Val → M Bool} (ho : TsM X E (compareOp op) g) (ho' : TsM X E (compareOp op') g') (ha : PEm X E a ma) (hb : PEm X E b mb) (hc : PEm X E c mc)
    (hm : lastMarks [op, op'] [b, c] = false := by with_unfolding_all rfl) : PTm X E (.Compare a [op, op'] [b, c] pos) (mChn g g' ma mb mc) := by
  obtain ⟨ta, pa, qa⟩ := ha.ex
  obtain ⟨tb, pb, qb⟩ := hb.ex
  obtain ⟨tc, pc, qc⟩ := hc.ex
  obtain ⟨r, pr, qr⟩ := ho
  obtain ⟨r', pr', qr'⟩ := ho'
  refine ⟨_, pt_chain pr pr' pa pb pc hm, fun io σ H env S Q er sr h => ?_⟩
  refine run2 (g := fun x y S2 => (g x y S2).bind fun k S3 => if k = true then (mc env S3).bind fun z S4 => g' y z S4 else .ok false S3) qa qb er sr h fun io2 H2 S2 x y v w l2 s2 r1 r2 h2 => ?_
  refine qr io2 H2 S2 x y v w _ s2 r1 r2 (fin_bind h2 fun k S3 io3 H3 k' _ l3 s3 e3 h3 => ?_)
  cases (show k = k' from e3)
  cases k with
  | false => exact iteF ⟨false, rfl, fin_here h3 s3 rfl⟩
  | true =>
    refine iteT ?_
    refine qc io3 σ H3 env S3 _ (er.mono (l2.trans l3)) s3 (fin_bind h3 fun z S4 io4 H4 u _ l4 s4 r4 h4 => ?_)
    exact qr' io4 H4 S4 y z w u Q s4 (VR.mono (l3.trans l4) _ _ r2) r4 h4
theorem pem_of {t : Ev → M Bool} {te : TE} (he : PE X e te) (h : ∀ io σ H env S (Q : Bool → Hp → Prop), ER X.K io H env σ → SR X.K io H S → FinG X.K RB E io H Q (t env S) → te σ H fun z H' => ∃ k, z = .bl k ∧ Q k H')
    (mono : ∀ σ H (Q Q' : VK), (∀ z H', Q z H' → Q' z H') → te σ H Q → te σ H Q') : PEm X E e (mBl t) := by
  refine ⟨te, he, fun io σ H env S Q er sr q => ?_⟩
  have h' : FinG X.K RB E io H (fun k H' => Q (.bl k) H') (t env S) := fin_bind q fun c S1 io1 H1 v _ l s r h1 => by
    cases (show c = v from r)
    exact fin_here h1 s rfl
  refine mono σ H _ _ (fun z H' ⟨k, e, q⟩ => by rw [e]; exact q) (h io σ H env S _ er sr h')
theorem pem_un {op : UnaryOp} {g : Val → M Val} {r : V → Hp → VK → Prop} (ho : UnR X (unaryOp op) r) (hq : ∀ io H S x v Q, SR X.K io H S → VR X.K io H x v → FinG X.K (VR X.K) E io H Q (g x S) → r v H Q) (ha : PEm X E a ma) : PEm X E (.UnaryOp op a pos) (mUn g ma) := by
  obtain ⟨ta, pa, qa⟩ := ha.ex
  refine ⟨_, pe_un ho pa, fun io σ H env S Q er sr h => ?_⟩
  exact qa io σ H env S _ er sr (fin_bind h fun x S1 io1 H1 v _ l1 s1 r1 h1 => hq io1 H1 S1 x v Q s1 r1 h1)
theorem pam_nil : PAm X E [] mNil := ⟨_, pa_nil, fun io σ H env S Q er sr h => fin_here h sr rfl⟩
theorem pam_cons {me : Ev → M Val} {mr : Ev → M (List Val)} (ha : PEm X E e me) (hr : PAm X E es mr) (hs : starEach (e :: es) X.env = (false, eval e X.env) :: starEach es X.env := by rfl) : PAm X E (e :: es) (mCons me mr) := by
  obtain ⟨te, pe, qe⟩ := ha.ex
  obtain ⟨tr, pr, qr⟩ := hr.ex
  refine ⟨_, pa_cons pe pr hs, fun io σ H env S Q er sr h => ?_⟩
  refine qe io σ H env S _ er sr (fin_bind h fun x S1 io1 H1 v _ l1 s1 r1 h1 => ?_)
  refine qr io1 σ H1 env S1 _ (er.mono l1) s1 (fin_bind h1 fun xs S2 io2 H2 vs _ l2 s2 r2 h2 => ?_)
  exact fin_here h2 s2 ⟨v, vs, rfl, VR.mono l2 _ _ r1, r2⟩
theorem pem_tup {mr : Ev → M (List Val)} {k} (hr : PAm X E es mr) : PEm X E (.Tuple es k pos) (mTup mr) := by
  obtain ⟨tr, pr, qr⟩ := hr.ex
  refine ⟨_, pe_tup pr, fun io σ H env S Q er sr h => ?_⟩
  refine qr io σ H env S _ er sr (fin_bind h fun xs S1 io1 H1 vs _ l1 s1 r1 h1 => ?_)
  by_cases hl : xs.length ≤ lim
  · rw [if_pos hl] at h1
    refine ⟨by rw [r1.length]; exact lim_le hl, fun p hp => ?_⟩
    exact fin_ok h1 (Le.new hp) (s1.new hp) ⟨p, vs, rfl, .inl (.inl upd_same), VRs.mono (Le.new hp) _ _ r1⟩
  · rw [if_neg hl] at h1
    exact h1.elim
theorem fresh {K : PySem.W.Frag} {io io' : List Addr} {H H' : Hp} {S : Sto} {p : Addr} (l : Le K io H io' H') (s : SR K io' H' S) (hp : H' p = none) : H p = none ∧ p ∉ io' := by
  have h2 : p ∉ io' := fun hi => by
    obtain ⟨n, hn⟩ := List.getElem?_of_mem hi
    have hl := (List.getElem?_eq_some_iff.mp hn).1
    rw [s.len] at hl
    exact (s.obj n p _ hn (List.getElem?_eq_getElem hl)).some hp
  refine ⟨?_, h2⟩
  cases e : H p with
  | none => rfl
  | some o =>
    by_cases hi : p ∈ io
    · obtain ⟨n, hn⟩ := List.getElem?_of_mem hi
      exact absurd (List.mem_of_getElem? (l.ia n p hn)) h2
    · have := (l.fr p o e hi).1
      rw [hp] at this
      cases this
theorem plm_lst {mr : Ev → M (List Val)} (hr : PAm X E es mr) : PLm X E (.List es pos) (mLst mr) := by
  obtain ⟨tr, pr, qr⟩ := hr.ex
  refine ⟨_, pe_lst pr, fun io σ H env S Q er sr h => ?_⟩
  refine qr io σ H env S _ er sr (fin_bind h fun xs S1 io1 H1 vs _ l1 s1 r1 h1 => ?_)
  by_cases hl : xs.length ≤ lim
  · rw [if_pos hl] at h1
    refine ⟨by rw [r1.length]; exact lim_le hl, fun p hp => ?_⟩
    obtain ⟨f1, f2⟩ := fresh l1 s1 hp
    exact fin_ok h1 (Le.new hp) (s1.new hp) ⟨p, vs, rfl, upd_same, f1, f2, VRs.mono (Le.new hp) _ _ r1⟩
  · rw [if_neg hl] at h1
    exact h1.elim
/-- a list is put into the store -/
theorem pem_new {ml : Ev → M (List Val)} (hl : PLm X E e ml) : PEm X E e (mNew ml) := by
  obtain ⟨t, p, q⟩ := hl.ex
  refine ⟨t, p, fun io σ H env S Q er sr h => ?_⟩
  refine q io σ H env S Q er sr (fin_bind h fun xs S1 io1 H1 v eo l1 s1 r1 _ => ?_)
  obtain ⟨a, vs, rfl, hv, hb, hi, k⟩ := r1
  have h2 : FinG X.K (VR X.K) E io H Q (mNew ml env S) := h
  unfold mNew at h2
  rw [eo] at h2
  refine fin_ok h2 (l1.own hb hi) (s1.own hi hv k) ⟨a, ?_, rfl⟩
  rw [← s1.len, List.getElem?_append_right (Nat.le_refl _), Nat.sub_self]
  rfl
theorem pem_if (ht : PTm X E c ta) (ha : PEm X E a ma) (hb : PEm X E b mb) : PEm X E (.IfExp c a b pos) (mIf ta ma mb) := by
  obtain ⟨tt, pt, qt⟩ := ht.ex
  obtain ⟨t1, p1, q1⟩ := ha.ex
  obtain ⟨t2, p2, q2⟩ := hb.ex
  refine ⟨_, pe_ifExp pt p1 p2, fun io σ H env S Q er sr h => ?_⟩
  refine qt io σ H env S _ er sr (fin_bind h fun k S1 io1 H1 k' _ l1 s1 r1 h1 => ?_)
  cases (show k = k' from r1)
  cases k with
  | true => exact iteT (q1 io1 σ H1 env S1 Q (er.mono l1) s1 h1)
  | false => exact iteF (q2 io1 σ H1 env S1 Q (er.mono l1) s1 h1)
theorem ptm_not (ha : PTm X E a ta) : PTm X E (.UnaryOp .Not a pos) (mNot ta) := by
  obtain ⟨tt, pt, qt⟩ := ha.ex
  refine ⟨_, pt_not pt, fun io σ H env S Q er sr h => ?_⟩
  refine qt io σ H env S _ er sr (fin_bind h fun k S1 io1 H1 k' _ l1 s1 r1 h1 => ?_)
  cases (show k = k' from r1)
  exact fin_here h1 s1 rfl
theorem pwm_and1 (ha : PTm X E a ta) : PWm X E (.BoolOp .And [a] pos) ta := let ⟨t, p, q⟩ := ha.ex; ⟨t, pw_and1 p, q⟩
theorem pwm_or1 (ha : PTm X E a ta) : PWm X E (.BoolOp .Or [a] pos) ta := let ⟨t, p, q⟩ := ha.ex; ⟨t, pw_or1 p, q⟩
theorem pwm_and {rest : List Expr} (ha : PTm X E a ta) (hb : PWm X E (.BoolOp .And (b :: rest) pos) tb) : PWm X E (.BoolOp .And (a :: b :: rest) pos) (mAnd ta tb) := by
  obtain ⟨t1, p1, q1⟩ := ha.ex
  obtain ⟨t2, p2, q2⟩ := hb.ex
  refine ⟨_, pw_and p1 p2, fun io σ H env S Q er sr h => ?_⟩
  refine q1 io σ H env S _ er sr (fin_bind h fun k S1 io1 H1 k' _ l1 s1 r1 h1 => ?_)
  cases (show k = k' from r1)
  cases k with
  | true => exact iteT (q2 io1 σ H1 env S1 Q (er.mono l1) s1 h1)
  | false => exact iteF (fin_here h1 s1 rfl)
theorem pwm_or {rest : List Expr} (ha : PTm X E a ta) (hb : PWm X E (.BoolOp .Or (b :: rest) pos) tb) : PWm X E (.BoolOp .Or (a :: b :: rest) pos) (mOr ta tb) := by
  obtain ⟨t1, p1, q1⟩ := ha.ex
  obtain ⟨t2, p2, q2⟩ := hb.ex
  refine ⟨_, pw_or p1 p2, fun io σ H env S Q er sr h => ?_⟩
  refine q1 io σ H env S _ er sr (fin_bind h fun k S1 io1 H1 k' _ l1 s1 r1 h1 => ?_)
  cases (show k = k' from r1)
  cases k with
  | true => exact iteT (fin_here h1 s1 rfl)
  | false => exact iteF (q2 io1 σ H1 env S1 Q (er.mono l1) s1 h1)
theorem ptm_w (h : PWm X E e ta) : PTm X E e ta := let ⟨t, p, q⟩ := h.ex; ⟨t, p.pt, q⟩
theorem tru_of {io : List Addr} {H : Hp} {S : Sto} {x : Val} {v : V} {Q : Bool → Hp → Prop} (s : SR X.K io H S) (r : VR X.K io H x v) (h : FinG X.K RB E io H Q (truth x S)) : ∃ k, TruV X.K v H k ∧ Q k H := by
  cases x with
  | non => cases (show v = .non from r); exact ⟨false, rfl, fin_here h s rfl⟩
  | bl b => cases (show v = .bl b from r); exact ⟨b, rfl, fin_here h s rfl⟩
  | int i => cases (show v = .int i from r); exact ⟨_, rfl, fin_here h s rfl⟩
  | str x =>
    cases (show v = .str ⟨x.toArray⟩ from r)
    simp only [truth] at h
    by_cases hl : x.length ≤ lim
    · rw [if_pos hl] at h
      refine ⟨!x.isEmpty, ⟨?_, ?_⟩, fin_here h s rfl⟩
      · show x.toArray.size ≤ sizeLine
        rw [List.size_toArray]
        exact lim_le hl
      · cases x with
        | nil => rfl
        | cons c y =>
          show true = (((c :: y).toArray.size : Int) != 0)
          rw [List.size_toArray, List.length_cons]
          exact (bne_iff_ne.mpr (by omega)).symm
    · rw [if_neg hl] at h
      exact h.elim
  | tup xs =>
    obtain ⟨a, vs, rfl, hs, k⟩ := r
    refine ⟨!xs.isEmpty, .inr (.inl ⟨vs, hs, ?_⟩), fin_here h s rfl⟩
    cases xs with
    | nil => cases k; rfl
    | cons y ys => obtain ⟨_, _, rfl, _⟩ := k; rfl
  | loc n =>
    obtain ⟨a, hi, rfl⟩ := r
    simp only [truth] at h
    cases e : S[n]? with
    | none => rw [e] at h; exact h.elim
    | some o =>
      rw [e] at h
      have q := s.is e hi
      cases o with
      | lst xs =>
        obtain ⟨vs, hv, k⟩ := q
        refine ⟨!xs.isEmpty, .inl ⟨vs, SqL.of hv, ?_⟩, fin_here h s rfl⟩
        cases xs with
        | nil => cases k; rfl
        | cons y ys => obtain ⟨_, _, rfl, _⟩ := k; rfl
  | kl xs =>
    obtain ⟨a, vs, rfl, hs, k⟩ := r
    refine ⟨!xs.isEmpty, .inl ⟨vs, hs.sq, ?_⟩, fin_here h s rfl⟩
    cases xs with
    | nil => cases k; rfl
    | cons y ys => obtain ⟨_, _, rfl, _⟩ := k; rfl
  | ext a => exact h.elim
theorem ptm_tru (ha : PEm X E a ma) (he : ∀ whole, isTrue a X.env whole = (do let v ← whole; standAt a.pos; holding [v] (truthy v)) := by intro _; rfl) : PTm X E a (mTru ma) := by
  obtain ⟨t, p, q⟩ := ha.ex
  refine ⟨_, pt_truth p he, fun io σ H env S Q er sr h => ?_⟩
  exact q io σ H env S _ er sr (fin_bind h fun x S1 io1 H1 v _ l1 s1 r1 h1 => tru_of s1 r1 h1)
end
end Mx

set_option linter.all false
set_option maxRecDepth 100000
set_option maxHeartbeats 4000000
namespace Mx
open PySem PySem.Spec PyProof.Rows L2

/-! ### data -/
mutual
def datV (f : Nat → Option PyData) : Val → Option PyData
  | .non => some .none
  | .bl b => some (.bool b)
  | .int i => some (.int i)
  | .str x => some (.str ⟨x.toArray⟩)
  | .tup xs => (datVs f xs).map .tuple
  | .kl xs => (datVs f xs).map .list
  | .loc n => f n
  | .ext _ => none
def datVs (f : Nat → Option PyData) : List Val → Option (List PyData)
  | [] => some []
  | x :: xs => (datV f x).bind fun d => (datVs f xs).map (d :: ·)
end
def dat (S : Sto) : Nat → Val → Option PyData
  | 0 => datV fun _ => none
  | k + 1 => datV fun n => match S[n]? with
    | some (.lst xs) => (datVs (match dat S k with | g => fun m => g (.loc m)) xs).map .list
    | none => none
mutual
theorem datV_plain {f : Nat → Option PyData} (hf : ∀ n d, f n = some d → d.plain = true) : ∀ (x : Val) (d : PyData), datV f x = some d → d.plain = true
  | .non, _, h => by cases h; rfl
  | .bl _, _, h => by cases h; rfl
  | .int _, _, h => by cases h; rfl
  | .str _, _, h => by cases h; rfl
  | .loc n, d, h => hf n d h
  | .ext _, _, h => nomatch h
  | .tup xs, d, h => by
    simp only [datV] at h
    cases e : datVs f xs with
    | none => rw [e] at h; cases h
    | some ds => rw [e] at h; cases h; exact datVs_plain hf xs ds e
  | .kl xs, d, h => by
    simp only [datV] at h
    cases e : datVs f xs with
    | none => rw [e] at h; cases h
    | some ds => rw [e] at h; cases h; exact datVs_plain hf xs ds e
theorem datVs_plain {f : Nat → Option PyData} (hf : ∀ n d, f n = some d → d.plain = true) : ∀ (xs : List Val) (ds : List PyData), datVs f xs = some ds → PyData.plainAll ds = true
  | [], _, h => by cases h; rfl
  | x :: xs, ds, h => by
    simp only [datVs] at h
    cases e : datV f x with
    | none => rw [e] at h; cases h
    | some d =>
      rw [e] at h
      cases e2 : datVs f xs with
      | none => simp [e2] at h
      | some es =>
        simp [e2] at h
        subst h
        simp only [PyData.plainAll, datV_plain hf x d e, datVs_plain hf xs es e2, Bool.and_self]
end
theorem dat_plain {S : Sto} : ∀ (k : Nat) (x : Val) (d : PyData), dat S k x = some d → d.plain = true
  | 0, x, d, h => datV_plain (fun _ _ h => by cases h) x d h
  | k + 1, x, d, h => by
    refine datV_plain (fun n d h => ?_) x d h
    cases e : S[n]? with
    | none => simp [e] at h
    | some o =>
      cases o with
      | lst xs =>
        simp only [e] at h
        cases e2 : datVs (fun m => dat S k (.loc m)) xs with
        | none => rw [e2] at h; cases h
        | some ds => rw [e2] at h; cases h; exact datVs_plain (fun m d h => dat_plain k (.loc m) d h) xs ds e2
section
variable {K : PySem.W.Frag} {io : List Addr} {H : Hp} {S : Sto}
mutual
theorem datV_dp {f : Nat → Option PyData} (hf : ∀ n a d, io[n]? = some a → f n = some d → Dp K H (.ref a) d) : ∀ (x : Val) (v : V) (d : PyData), VR K io H x v → datV f x = some d → Dp K H v d
  | .non, _, _, r, h => by cases r; cases h; exact .non
  | .bl b, _, _, r, h => by cases r; cases h; exact .bl b
  | .int i, _, _, r, h => by cases r; cases h; exact .int i
  | .str x, _, _, r, h => by cases r; cases h; exact .str _
  | .loc n, _, d, ⟨a, hi, e⟩, h => by subst e; exact hf n a d hi h
  | .ext _, _, _, _, h => nomatch h
  | .tup xs, _, d, ⟨a, vs, e, hs, k⟩, h => by
    subst e
    simp only [datV] at h
    cases e : datVs f xs with
    | none => rw [e] at h; cases h
    | some ds => rw [e] at h; cases h; exact .tup hs (datVs_dp hf xs vs ds k e)
  | .kl xs, _, d, ⟨a, vs, e, hs, k⟩, h => by
    subst e
    simp only [datV] at h
    cases e : datVs f xs with
    | none => rw [e] at h; cases h
    | some ds => rw [e] at h; cases h; exact .lst hs.sq (datVs_dp hf xs vs ds k e)
theorem datVs_dp {f : Nat → Option PyData} (hf : ∀ n a d, io[n]? = some a → f n = some d → Dp K H (.ref a) d) : ∀ (xs : List Val) (vs : List V) (ds : List PyData), VRs K io H xs vs → datVs f xs = some ds → DpAll K H vs ds
  | [], _, _, r, h => by cases r; cases h; exact .nil
  | x :: xs, _, ds, ⟨v, ws, e, r, k⟩, h => by
    subst e
    simp only [datVs] at h
    cases e : datV f x with
    | none => rw [e] at h; cases h
    | some d =>
      rw [e] at h
      cases e2 : datVs f xs with
      | none => simp [e2] at h
      | some es =>
        simp [e2] at h
        subst h
        exact .cons (datV_dp hf x v d r e) (datVs_dp hf xs ws es k e2)
end
theorem dat_dp (s : SR K io H S) : ∀ (k : Nat) (x : Val) (v : V) (d : PyData), VR K io H x v → dat S k x = some d → Dp K H v d
  | 0, x, v, d, r, h => datV_dp (fun _ _ _ _ h => by cases h) x v d r h
  | k + 1, x, v, d, r, h => by
    refine datV_dp (fun n a d hi h => ?_) x v d r h
    cases e : S[n]? with
    | none => simp [e] at h
    | some o =>
      have q := s.is e hi
      cases o with
      | lst xs =>
        simp only [e] at h
        obtain ⟨vs, hv, kk⟩ := q
        cases e2 : datVs (fun m => dat S k (.loc m)) xs with
        | none => rw [e2] at h; cases h
        | some ds => rw [e2] at h; cases h; exact .lst (SqL.of hv) (datVs_dp (fun m a d hi h => dat_dp s k (.loc m) _ d ⟨a, hi, rfl⟩ h) xs vs ds kk e2)
end
/-- how deep the store is followed for == -/
def deep : Nat := 20
def datL (xs : List Val) (S : Sto) : Option PyData := (datVs (fun m => dat S deep (.loc m)) xs).map .list
def datE (x : Val) (S : Sto) : Option PyData := dat S deep x

/-- an expression that gives a thing of some kind (R: how it lies, by the heap ahead of it) -/
structure PXm {α : Type} (X : Cx) (E : XK) (R : Hp → List Addr → Hp → α → V → Prop) (e : Expr) (m : Ev → M α) : Prop where
  ex : ∃ t, PE X e t ∧ ∀ io σ H env S Q, ER X.K io H env σ → SR X.K io H S → FinG X.K (R H) E io H Q (m env S) → t σ H Q
theorem PEm.x {X : Cx} {E : XK} {e : Expr} {m : Ev → M Val} (h : PEm X E e m) : PXm X E (fun _ => VR X.K) e m := ⟨h.ex⟩
theorem PLm.x {X : Cx} {E : XK} {e : Expr} {m : Ev → M (List Val)} (h : PLm X E e m) : PXm X E (RL X.K) e m := ⟨h.ex⟩
structure View {α : Type} (K : PySem.W.Frag) (R : Hp → List Addr → Hp → α → V → Prop) (D : α → Sto → Option PyData) : Prop where
  mono : ∀ {B H H' : Hp} {io io' : List Addr} {x : α} {v : V}, Le K io H io' H' → R B io H x v → R B io' H' x v
  dp : ∀ {B H : Hp} {io : List Addr} {S : Sto} {x : α} {v : V} {d : PyData}, SR K io H S → R B io H x v → D x S = some d → Dp K H v d ∧ d.plain = true
theorem viewE {K : PySem.W.Frag} : View K (fun _ => VR K) datE := ⟨fun l r => VR.mono l _ _ r, fun s r e => ⟨dat_dp s _ _ _ _ r e, dat_plain _ _ _ e⟩⟩
theorem RL.mono {K : PySem.W.Frag} {B H H' : Hp} {io io' : List Addr} {xs : List Val} {v : V} (l : Le K io H io' H') (r : RL K B io H xs v) : RL K B io' H' xs v := by
  obtain ⟨a, vs, e, hv, hb, hi, k⟩ := r
  exact ⟨a, vs, e, (l.fr a _ hv hi).1, hb, (l.fr a _ hv hi).2, VRs.mono l _ _ k⟩
theorem viewL {K : PySem.W.Frag} : View K (RL K) datL := ⟨RL.mono, fun {B H io S xs v d} s r e => by
  obtain ⟨a, vs, rfl, hv, hb, hi, k⟩ := r
  unfold datL at e
  cases e2 : datVs (fun m => dat S deep (.loc m)) xs with
  | none => rw [e2] at e; cases e
  | some ds =>
    rw [e2] at e
    cases e
    exact ⟨.lst (SqL.of hv) (datVs_dp (fun m a d hi h => dat_dp s deep (.loc m) _ d ⟨a, hi, rfl⟩ h) xs vs ds k e2), datVs_plain (fun m d h => dat_plain deep (.loc m) d h) xs ds e2⟩⟩

def mEq {α β : Type} (neg : Bool) (D : α → Sto → Option PyData) (D' : β → Sto → Option PyData) (a : Ev → M α) (b : Ev → M β) : Ev → M Bool := fun env S => (a env S).bind fun x S1 => (b env S1).bind fun y S2 =>
  match D x S2, D' y S2 with
  | some d, some e => if min d.depth e.depth ≤ 64 then .ok (if neg = true then !PyData.eqv d e else PyData.eqv d e) S2 else .bad
  | _, _ => .bad
def rEqP (K : PySem.W.Frag) (neg : Bool) : R2 := fun x y H Q => ∃ d e, Dp K H x d ∧ Dp K H y e ∧ d.plain = true ∧ e.plain = true ∧ min d.depth e.depth ≤ 64 ∧ Q (.bl (if neg = true then !PyData.eqv d e else PyData.eqv d e)) H
theorem op_eqP {X : Cx} (hu : X.A.units + 64 < cLine) : OpR X (compareOp .Eq) (rEqP X.K false) := by
  intro pins s σ H x y v u Q I rx ry h
  obtain ⟨d, e, hd, he, sd, se, hz, q⟩ := h
  obtain ⟨as, r1⟩ := Dp.reads I d x v hd rx
  obtain ⟨bs, r2⟩ := Dp.reads I e y u he ry
  exact SeqAt.eq_plain r1 r2 sd se (by omega) ⟨.bl _, H, I, rfl, q⟩
theorem op_neP {X : Cx} (hu : X.A.units + 64 < cLine) : OpR X (compareOp .NotEq) (rEqP X.K true) := by
  intro pins s σ H x y v u Q I rx ry h
  obtain ⟨d, e, hd, he, sd, se, hz, q⟩ := h
  obtain ⟨as, r1⟩ := Dp.reads I d x v hd rx
  obtain ⟨bs, r2⟩ := Dp.reads I e y u he ry
  exact SeqAt.ne_plain r1 r2 sd se (by omega) ⟨.bl _, H, I, rfl, q⟩
section
variable {X : Cx} {E : XK} {a b : Expr} {pos : Pos}
theorem ptm_eqG {α β : Type} {R : Hp → List Addr → Hp → α → V → Prop} {R' : Hp → List Addr → Hp → β → V → Prop} {D : α → Sto → Option PyData} {D' : β → Sto → Option PyData} {ma : Ev → M α} {mb : Ev → M β} {op : CmpOp} {neg : Bool}
    (ho : OpR X (compareOp op) (rEqP X.K neg)) (w : View X.K R D) (w' : View X.K R' D') (ha : PXm X E R a ma) (hb : PXm X E R' b mb) (hm : behindInMarks op b = false) : PTm X E (.Compare a [op] [b] pos) (mEq neg D D' ma mb) := by
  obtain ⟨ta, pa, qa⟩ := ha.ex
  obtain ⟨tb, pb, qb⟩ := hb.ex
  refine ⟨_, pt_cmpR ho pa pb hm, fun io σ H env S Q er sr h => ?_⟩
  refine qa io σ H env S _ er sr (fin_bind h fun x S1 io1 H1 v _ l1 s1 r1 h1 => ?_)
  refine qb io1 σ H1 env S1 _ (er.mono l1) s1 (fin_bind h1 fun y S2 io2 H2 u _ l2 s2 r2 h2 => ?_)
  cases e1 : D x S2 with
  | none => simp only [e1] at h2; exact h2.elim
  | some d =>
    cases e2 : D' y S2 with
    | none => simp only [e1, e2] at h2; exact h2.elim
    | some e =>
      simp only [e1, e2] at h2
      obtain ⟨d1, d2⟩ := w.dp s2 (w.mono l2 r1) e1
      obtain ⟨d3, d4⟩ := w'.dp s2 r2 e2
      by_cases hz : min d.depth e.depth ≤ 64
      · rw [if_pos hz] at h2
        exact ⟨d, e, d1, d3, d2, d4, hz, _, rfl, fin_here h2 s2 rfl⟩
      · rw [if_neg hz] at h2
        exact h2.elim
end
end Mx

set_option linter.all false
set_option maxRecDepth 100000
set_option maxHeartbeats 4000000
namespace Mx
open PySem PySem.Spec PyProof.Rows L2

/-! ### operators -/
def gAdd : Val → Val → M Val
  | .int i, .int j, S => .ok (.int (i + j)) S
  | .str x, .str y, S => if x.length + y.length ≤ lim then .ok (.str (x ++ y)) S else .bad
  | .tup x, .tup y, S => if x.length + y.length ≤ lim then .ok (.tup (x ++ y)) S else .bad
  | _, _, _ => .bad
def gSub : Val → Val → M Val
  | .int i, .int j, S => .ok (.int (i - j)) S
  | _, _, _ => .bad
def gMul : Val → Val → M Val
  | .int i, .int j, S => if i.natAbs < 2 ^ 64 ∨ j.natAbs < 2 ^ 64 then .ok (.int (i * j)) S else .bad
  | .str x, .int n, S => if x.length * n.toNat ≤ lim ∧ n.natAbs ≤ lim then .ok (.str (List.replicate n.toNat x).flatten) S else .bad
  | _, _, _ => .bad
def gDiv : Val → Val → M Val
  | .int i, .int j, S => if 0 < j ∧ j.natAbs < 2 ^ 64 then .ok (.int (i / j)) S else .bad
  | _, _, _ => .bad
def gMod : Val → Val → M Val
  | .int i, .int j, S => if 0 < j then .ok (.int (i % j)) S else .bad
  | _, _, _ => .bad
def gPow : Val → Val → M Val
  | .int i, .int j, S => if 0 ≤ j ∧ j ≤ 1000000 ∧ i.natAbs < 2 ^ 64 then .ok (.int (i ^ j.toNat)) S else .bad
  | _, _, _ => .bad
def gNeg : Val → M Val
  | .int i, S => .ok (.int (-i)) S
  | _, _ => .bad
section
variable {X : Cx} {E : XK}
theorem opm_add : OpM X E (binaryOp .Add) gAdd := by
  refine ⟨_, OpR.or op_add (OpR.or op_add_str op_catA), fun io H S x y v w Q s rx ry h => ?_⟩
  cases x with
  | int i =>
    cases y with
    | int j =>
      cases (show v = .int i from rx)
      cases (show w = .int j from ry)
      exact .inl ⟨i, j, rfl, rfl, fin_here h s rfl⟩
    | _ => exact h.elim
  | str x =>
    cases y with
    | str y =>
      cases (show v = .str _ from rx)
      cases (show w = .str _ from ry)
      simp only [gAdd] at h
      by_cases hl : x.length + y.length ≤ lim
      · rw [if_pos hl] at h
        refine .inr (.inl ⟨_, _, rfl, rfl, ?_, ?_⟩)
        · show x.toArray.size + y.toArray.size ≤ sizeLine
          rw [List.size_toArray, List.size_toArray]
          exact lim_le hl
        · have e : ((⟨x.toArray⟩ : Str) ++ (⟨y.toArray⟩ : Str)) = ⟨(x ++ y).toArray⟩ := by
            show (⟨x.toArray ++ y.toArray⟩ : Str) = _
            rw [List.append_toArray]
          rw [e]
          exact fin_here h s rfl
      · rw [if_neg hl] at h
        exact h.elim
    | _ => exact h.elim
  | tup x =>
    cases y with
    | tup y =>
      obtain ⟨a, vs, rfl, ha, k⟩ := rx
      obtain ⟨b, ws, rfl, hb, k2⟩ := ry
      simp only [gAdd] at h
      by_cases hl : x.length + y.length ≤ lim
      · rw [if_pos hl] at h
        have e1 := k.length
        have e2 := k2.length
        refine .inr (.inr ⟨a, b, vs, ws, rfl, rfl, ha, hb, by rw [e1, e2]; exact lim_le hl, fun z => ?_, fun _ z => ?_, fun _ _ p hp => ?_⟩)
        · subst z
          have ex : x = [] := List.eq_nil_of_length_eq_zero e1.symm
          subst ex
          exact fin_here h s ⟨b, ws, rfl, hb, k2⟩
        · subst z
          have ey : y = [] := List.eq_nil_of_length_eq_zero e2.symm
          subst ey
          rw [List.append_nil] at h
          exact fin_here h s ⟨a, vs, rfl, ha, k⟩
        · exact fin_ok h (Le.new hp) (s.new hp) ⟨p, _, rfl, .inl (.inl upd_same), VRs.mono (Le.new hp) _ _ (k.app k2)⟩
      · rw [if_neg hl] at h
        exact h.elim
    | _ => exact h.elim
  | _ => exact h.elim
theorem opm_sub : OpM X E (binaryOp .Sub) gSub := by
  refine ⟨_, op_sub, fun io H S x y v w Q s rx ry h => ?_⟩
  cases x with
  | int i =>
    cases y with
    | int j =>
      cases (show v = .int i from rx)
      cases (show w = .int j from ry)
      exact ⟨i, j, rfl, rfl, fin_here h s rfl⟩
    | _ => exact h.elim
  | _ => exact h.elim
theorem small_log {i : Int} (h : i.natAbs < 2 ^ 64) : -(2 ^ 64) < i ∧ i < 2 ^ 64 := by omega
theorem fold_rep (x : List Nat) : ∀ (n : Nat) (acc : List Nat), (List.replicate n x.toArray).foldl (fun a b => a ++ b) acc.toArray = (acc ++ (List.replicate n x).flatten).toArray
  | 0, acc => by simp
  | n + 1, acc => by
    rw [List.replicate_succ, List.foldl_cons, List.append_toArray, fold_rep x n, List.replicate_succ, List.flatten_cons, List.append_assoc]
theorem op_mul_strI : OpR X (binaryOp .Mult) (fun x y H Q => ∃ (z : List Nat) (n : Int), x = .str ⟨z.toArray⟩ ∧ y = .int n ∧ z.length * n.toNat ≤ lim ∧ n.natAbs ≤ lim ∧ Q (.str ⟨((List.replicate n.toNat z).flatten).toArray⟩) H) := by
  intro pins s σ H x y v u Q I rx ry h
  obtain ⟨z, n, rfl, rfl, hl, hn, q⟩ := h
  obtain ⟨t, rfl⟩ := rx
  obtain ⟨t2, rfl⟩ := ry
  have hz : (⟨z.toArray⟩ : Str).length = z.length := List.size_toArray
  have c0 : (decide (n < -(2 ^ 63 : Int)) || decide (n ≥ 2 ^ 63)) = false := by
    have h1 : lim = 100000 := rfl
    rw [decide_eq_false (by omega), decide_eq_false (by omega)]
    rfl
  refine P.mul_str c0 (fun h1 _ hb => ?_) (fun h1 _ => ?_) ?_
  · rw [hz] at hb
    have h3 : ((z.length : Int)) * n ≤ 100000 := by
      have e : n = (n.toNat : Int) := by omega
      rw [e, ← Int.natCast_mul]
      have : lim = 100000 := rfl
      omega
    have h4 : (2 ^ 63 - 1) / n < (z.length : Int) := hb
    have h5 : (2 ^ 63 - 1 : Int) < z.length * n := by
      have := Int.lt_mul_of_ediv_lt (show (0 : Int) < n by omega) h4
      exact this
    omega
  · rw [hz]
    have h2 := lim_le hl
    exact decide_eq_false (by omega)
  · by_cases h1 : n < 1
    · rw [if_pos h1]
      have e : n.toNat = 0 := by omega
      rw [e] at q
      exact ⟨by decide, .str _, H, I.tok _, ⟨_, rfl⟩, q⟩
    · rw [if_neg h1]
      by_cases h2 : (n == 1 || (⟨z.toArray⟩ : Str).length == 0) = true
      · rw [if_pos h2]
        have e : (List.replicate n.toNat z).flatten = z := by
          rw [hz, Bool.or_eq_true] at h2
          rcases h2 with h2 | h2
          · have : n.toNat = 1 := by have := eq_of_beq h2; omega
            rw [this]
            simp
          · have : z = [] := List.eq_nil_of_length_eq_zero (eq_of_beq h2)
            rw [this]
            simp
        rw [e] at q
        exact ⟨.str _, H, I, ⟨_, rfl⟩, q⟩
      · rw [if_neg h2]
        have e : (List.replicate n.toNat z.toArray).foldl (fun a b => a ++ b) #[] = ((List.replicate n.toNat z).flatten).toArray := by
          have := fold_rep z n.toNat []
          rw [List.nil_append] at this
          exact this
        refine ⟨?_, .str _, H, I.tok _, ⟨_, rfl⟩, ?_⟩
        · show ((List.replicate n.toNat z.toArray).foldl (fun a b => a ++ b) #[]).size ≤ sizeLine
          rw [e, List.size_toArray]
          refine lim_le ?_
          rw [List.length_flatten, List.map_replicate, List.sum_replicate_nat, Nat.mul_comm]
          exact hl
        · rw [← e] at q
          exact q
theorem opm_mul : OpM X E (binaryOp .Mult) gMul := by
  refine ⟨_, OpR.or op_mul op_mul_strI, fun io H S x y v w Q s rx ry h => ?_⟩
  cases x with
  | int i =>
    cases y with
    | int j =>
      cases (show v = .int i from rx)
      cases (show w = .int j from ry)
      simp only [gMul] at h
      by_cases hl : i.natAbs < 2 ^ 64 ∨ j.natAbs < 2 ^ 64
      · rw [if_pos hl] at h
        refine .inl ⟨i, j, rfl, rfl, ?_, fin_here h s rfl⟩
        rcases hl with hl | hl
        · exact .inl (small_log hl)
        · exact .inr (small_log hl)
      · rw [if_neg hl] at h
        exact h.elim
    | _ => exact h.elim
  | str x =>
    cases y with
    | int n =>
      cases (show v = .str _ from rx)
      cases (show w = .int n from ry)
      simp only [gMul] at h
      by_cases hl : x.length * n.toNat ≤ lim ∧ n.natAbs ≤ lim
      · rw [if_pos hl] at h
        exact .inr ⟨x, n, rfl, rfl, hl.1, hl.2, fin_here h s rfl⟩
      · rw [if_neg hl] at h
        exact h.elim
    | _ => exact h.elim
  | _ => exact h.elim
theorem opm_div : OpM X E (binaryOp .FloorDiv) gDiv := by
  refine ⟨_, op_fdivW, fun io H S x y v w Q s rx ry h => ?_⟩
  cases x with
  | int i =>
    cases y with
    | int j =>
      cases (show v = .int i from rx)
      cases (show w = .int j from ry)
      simp only [gDiv] at h
      by_cases hl : 0 < j ∧ j.natAbs < 2 ^ 64
      · rw [if_pos hl] at h
        exact ⟨i, j, rfl, rfl, wide_div hl.1 hl.2 (by decide) (by decide), fin_here h s rfl⟩
      · rw [if_neg hl] at h
        exact h.elim
    | _ => exact h.elim
  | _ => exact h.elim
theorem opm_mod : OpM X E (binaryOp .Mod) gMod := by
  refine ⟨_, op_mod, fun io H S x y v w Q s rx ry h => ?_⟩
  cases x with
  | int i =>
    cases y with
    | int j =>
      cases (show v = .int i from rx)
      cases (show w = .int j from ry)
      simp only [gMod] at h
      by_cases hl : 0 < j
      · rw [if_pos hl] at h
        exact ⟨i, j, rfl, rfl, hl, fin_here h s rfl⟩
      · rw [if_neg hl] at h
        exact h.elim
    | _ => exact h.elim
  | _ => exact h.elim
theorem opm_pow : OpM X E (binaryOp .Pow) gPow := by
  refine ⟨_, op_pow, fun io H S x y v w Q s rx ry h => ?_⟩
  cases x with
  | int i =>
    cases y with
    | int j =>
      cases (show v = .int i from rx)
      cases (show w = .int j from ry)
      simp only [gPow] at h
      by_cases hl : 0 ≤ j ∧ j ≤ 1000000 ∧ i.natAbs < 2 ^ 64
      · rw [if_pos hl] at h
        exact ⟨i, j, rfl, rfl, hl, fin_here h s rfl⟩
      · rw [if_neg hl] at h
        exact h.elim
    | _ => exact h.elim
  | _ => exact h.elim
theorem pem_neg {a : Expr} {ma : Ev → M Val} {pos : Pos} (ha : PEm X E a ma) : PEm X E (.UnaryOp .USub a pos) (mUn gNeg ma) :=
  pem_un un_neg (fun io H S x v Q s r h => by
    cases x with
    | int i => cases (show v = .int i from r); exact ⟨i, rfl, fin_here h s rfl⟩
    | _ => exact h.elim) ha

/-! ### comparisons -/
def gCmp (p : Int → Int → Bool) : Val → Val → M Bool
  | .int i, .int j, S => .ok (p i j) S
  | _, _, _ => .bad
theorem tsm_int {op : CmpOp} {p : Int → Int → Bool} (ho : OpR X (compareOp op) (rI0 fun i j => .bl (p i j))) : TsM X E (compareOp op) (gCmp p) := by
  refine ⟨_, ho, fun io H S x y v w Q s rx ry h => ?_⟩
  cases x with
  | int i =>
    cases y with
    | int j =>
      cases (show v = .int i from rx)
      cases (show w = .int j from ry)
      exact ⟨i, j, rfl, rfl, _, rfl, fin_here h s rfl⟩
    | _ => exact h.elim
  | _ => exact h.elim
theorem tsm_lt : TsM X E (compareOp .Lt) (gCmp fun i j => decide (i < j)) := tsm_int op_lt
theorem tsm_le : TsM X E (compareOp .LtE) (gCmp fun i j => decide (i ≤ j)) := tsm_int op_le
theorem tsm_gt : TsM X E (compareOp .Gt) (gCmp fun i j => decide (j < i)) := tsm_int op_gt
theorem tsm_ge : TsM X E (compareOp .GtE) (gCmp fun i j => decide (j ≤ i)) := tsm_int op_ge
/-- x is None -/
def gIsN (neg : Bool) : Val → Val → M Bool
  | x, .non, S => .ok (match x with | .non => !neg | _ => neg) S
  | _, _, _ => .bad
theorem tsm_isN : TsM X E (compareOp .Is) (gIsN false) := by
  refine ⟨_, op_isN, fun io H S x y v w Q s rx ry h => ?_⟩
  cases y with
  | non =>
    cases (show w = .non from ry)
    refine ⟨rfl, _, rfl, ?_⟩
    have e : decide (v = .non) = (match x with | .non => true | _ => false) := by
      cases x with
      | non => cases (show v = .non from rx); rfl
      | bl b => cases (show v = _ from rx); rfl
      | int b => cases (show v = _ from rx); rfl
      | str b => cases (show v = _ from rx); rfl
      | ext b => cases (show v = _ from rx); rfl
      | tup xs => obtain ⟨a, vs, rfl, _⟩ := rx; rfl
      | kl xs => obtain ⟨a, vs, rfl, _⟩ := rx; rfl
      | loc n => obtain ⟨a, _, rfl⟩ := rx; rfl
    rw [e]
    exact fin_here h s (by cases x <;> rfl)
  | _ => exact h.elim
theorem tsm_notN : TsM X E (compareOp .IsNot) (gIsN true) := by
  refine ⟨_, op_notN, fun io H S x y v w Q s rx ry h => ?_⟩
  cases y with
  | non =>
    cases (show w = .non from ry)
    refine ⟨rfl, _, rfl, ?_⟩
    have e : (!decide (v = .non)) = (match x with | .non => false | _ => true) := by
      cases x with
      | non => cases (show v = .non from rx); rfl
      | bl b => cases (show v = _ from rx); rfl
      | int b => cases (show v = _ from rx); rfl
      | str b => cases (show v = _ from rx); rfl
      | ext b => cases (show v = _ from rx); rfl
      | tup xs => obtain ⟨a, vs, rfl, _⟩ := rx; rfl
      | kl xs => obtain ⟨a, vs, rfl, _⟩ := rx; rfl
      | loc n => obtain ⟨a, _, rfl⟩ := rx; rfl
    rw [e]
    exact fin_here h s (by cases x <;> rfl)
  | _ => exact h.elim
/-- one sign in a text; a thing among those of a tuple, of a list of the store -/
def gIn (neg : Bool) : Val → Val → M Bool
  | .str [c], .str z, S => .ok (if neg = true then !decide (c ∈ z) else decide (c ∈ z)) S
  | x, .tup ys, S => match datE x S, datVs (fun m => dat S deep (.loc m)) ys with
    | some d, some ds => if d.depth ≤ 64 then .ok (if neg = true then !ds.any (fun y => PyData.eqv y d) else ds.any fun y => PyData.eqv y d) S else .bad
    | _, _ => .bad
  | x, .loc n, S => match S[n]? with
    | some (.lst ys) => (match datE x S, datVs (fun m => dat S deep (.loc m)) ys with
      | some d, some ds => if d.depth ≤ 64 then .ok (if neg = true then !ds.any (fun y => PyData.eqv y d) else ds.any fun y => PyData.eqv y d) S else .bad
      | _, _ => .bad)
    | _ => .bad
  | _, _, _ => .bad
def rInD (K : PySem.W.Frag) (neg : Bool) : R2 := fun x y H Q => ∃ d ds, Dp K H x d ∧ (Dp K H y (.tuple ds) ∨ Dp K H y (.list ds)) ∧ d.plain = true ∧ PyData.plainAll ds = true ∧ d.depth ≤ 64 ∧ Q (.bl (if neg = true then !ds.any (fun y => PyData.eqv y d) else ds.any fun y => PyData.eqv y d)) H
theorem op_inD (hu : X.A.units + 66 < cLine) : OpR X (compareOp .In) (rInD X.K false) := by
  intro pins s σ H x y v u Q I rx ry h
  obtain ⟨d, ds, hd, he, sd, se, hz, q⟩ := h
  obtain ⟨as, r1⟩ := Dp.reads I d x v hd rx
  have hu2 : X.A.units + 1 + min (PyData.depthAll ds) d.depth < cLine := by omega
  rcases he with he | he
  · obtain ⟨bs, r2⟩ := Dp.reads I _ y u he ry
    exact SeqAt.in_tuple_data r2 r1 se sd hu2 ⟨.bl _, H, I, rfl, q⟩
  · obtain ⟨bs, r2⟩ := Dp.reads I _ y u he ry
    exact SeqAt.in_list_data r2 r1 se sd hu2 ⟨.bl _, H, I, rfl, q⟩
theorem op_niD (hu : X.A.units + 66 < cLine) : OpR X (compareOp .NotIn) (rInD X.K true) := by
  intro pins s σ H x y v u Q I rx ry h
  obtain ⟨d, ds, hd, he, sd, se, hz, q⟩ := h
  obtain ⟨as, r1⟩ := Dp.reads I d x v hd rx
  have hu2 : X.A.units + 1 + min (PyData.depthAll ds) d.depth < cLine := by omega
  rcases he with he | he
  · obtain ⟨bs, r2⟩ := Dp.reads I _ y u he ry
    exact SeqAt.notIn_tuple_data r2 r1 se sd hu2 ⟨.bl _, H, I, rfl, q⟩
  · obtain ⟨bs, r2⟩ := Dp.reads I _ y u he ry
    exact SeqAt.notIn_list_data r2 r1 se sd hu2 ⟨.bl _, H, I, rfl, q⟩
theorem in_fin {neg : Bool} {r1 : R2} (e1 : ∀ (c : Nat) (z : List Nat) (H : Hp) (Q : VK), Q (.bl (if neg = true then !decide (c ∈ z) else decide (c ∈ z))) H → r1 (.str ⟨[c].toArray⟩) (.str ⟨z.toArray⟩) H Q)
    (io : List Addr) (H : Hp) (S : Sto) (x y : Val) (v w : V) (Q : Bool → Hp → Prop) (s : SR X.K io H S) (rx : VR X.K io H x v) (ry : VR X.K io H y w) (h : FinG X.K RB E io H Q (gIn neg x y S)) :
    (fun v w H Q => r1 v w H Q ∨ rInD X.K neg v w H Q) v w H (fun z H' => ∃ k, z = .bl k ∧ Q k H') := by
  have core : ∀ (ys : List Val) (mk : List PyData → PyData), (∀ ds, datVs (fun m => dat S deep (.loc m)) ys = some ds → (Dp X.K H w (.tuple ds) ∨ Dp X.K H w (.list ds)) ∧ PyData.plainAll ds = true) →
      FinG X.K RB E io H Q (match datE x S, datVs (fun m => dat S deep (.loc m)) ys with
        | some d, some ds => if d.depth ≤ 64 then .ok (if neg = true then !ds.any (fun y => PyData.eqv y d) else ds.any fun y => PyData.eqv y d) S else .bad
        | _, _ => .bad) → rInD X.K neg v w H (fun z H' => ∃ k, z = .bl k ∧ Q k H') := fun ys mk hy h => by
    cases e1 : datE x S with
    | none => simp only [e1] at h; exact h.elim
    | some d =>
      cases e2 : datVs (fun m => dat S deep (.loc m)) ys with
      | none => simp only [e1, e2] at h; exact h.elim
      | some ds =>
        simp only [e1, e2] at h
        obtain ⟨h1, h2⟩ := hy ds e2
        by_cases hz : d.depth ≤ 64
        · rw [if_pos hz] at h
          exact ⟨d, ds, dat_dp s _ _ _ _ rx e1, h1, dat_plain _ _ _ e1, h2, hz, _, rfl, fin_here h s rfl⟩
        · rw [if_neg hz] at h
          exact h.elim
  cases y with
  | str z =>
    cases x with
    | str c =>
      cases c with
      | nil => exact h.elim
      | cons c r =>
        cases r with
        | cons _ _ => exact h.elim
        | nil =>
          cases (show v = .str _ from rx)
          cases (show w = .str _ from ry)
          exact .inl (e1 c z H _ ⟨_, rfl, fin_here h s rfl⟩)
    | _ => exact h.elim
  | tup ys =>
    obtain ⟨b, ws, rfl, hb, k⟩ := ry
    refine .inr (core ys .tuple (fun ds e => ⟨.inl (.tup hb (datVs_dp (fun m a d hi h => dat_dp s deep (.loc m) _ d ⟨a, hi, rfl⟩ h) ys ws ds k e)), datVs_plain (fun m d h => dat_plain deep (.loc m) d h) ys ds e⟩) ?_)
    cases x with
    | str c => cases c with
      | nil => exact h
      | cons _ r => cases r <;> exact h
    | _ => exact h
  | loc n =>
    obtain ⟨b, hi, rfl⟩ := ry
    have h : FinG X.K RB E io H Q (match S[n]? with
      | some (.lst ys) => (match datE x S, datVs (fun m => dat S deep (.loc m)) ys with
        | some d, some ds => if d.depth ≤ 64 then .ok (if neg = true then !ds.any (fun y => PyData.eqv y d) else ds.any fun y => PyData.eqv y d) S else .bad
        | _, _ => .bad)
      | _ => .bad) := by
      cases x with
      | str c => cases c with
        | nil => exact h
        | cons _ r => cases r <;> exact h
      | _ => exact h
    cases e : S[n]? with
    | none => rw [e] at h; exact h.elim
    | some o =>
      rw [e] at h
      have q := s.is e hi
      cases o with
      | lst ys =>
        obtain ⟨ws, hv, k⟩ := q
        exact .inr (core ys .list (fun ds e => ⟨.inr (.lst (SqL.of hv) (datVs_dp (fun m a d hi h => dat_dp s deep (.loc m) _ d ⟨a, hi, rfl⟩ h) ys ws ds k e)), datVs_plain (fun m d h => dat_plain deep (.loc m) d h) ys ds e⟩) h)
  | kl _ => cases x <;> first | exact h.elim | (rename_i c; cases c <;> first | exact h.elim | (rename_i _ r; cases r <;> exact h.elim))
  | non => cases x <;> first | exact h.elim | (rename_i c; cases c <;> first | exact h.elim | (rename_i _ r; cases r <;> exact h.elim))
  | bl _ => cases x <;> first | exact h.elim | (rename_i c; cases c <;> first | exact h.elim | (rename_i _ r; cases r <;> exact h.elim))
  | int _ => cases x <;> first | exact h.elim | (rename_i c; cases c <;> first | exact h.elim | (rename_i _ r; cases r <;> exact h.elim))
  | ext _ => cases x <;> first | exact h.elim | (rename_i c; cases c <;> first | exact h.elim | (rename_i _ r; cases r <;> exact h.elim))
theorem tsm_in (hu : X.A.units + 66 < cLine) : TsM X E (compareOp .In) (gIn false) :=
  ⟨_, OpR.or op_in_sign (op_inD hu), in_fin (X := X) (neg := false) (r1 := fun x y H Q => ∃ (c : Nat) (z : Str), x = .str ⟨#[c]⟩ ∧ y = .str z ∧ Q (.bl (decide (c ∈ z.cps.toList))) H) fun c z H Q q => ⟨c, ⟨z.toArray⟩, rfl, rfl, by
    have e : decide (c ∈ (⟨z.toArray⟩ : Str).cps.toList) = decide (c ∈ z) := by rw [List.toList_toArray]
    rw [e]; exact q⟩⟩
theorem tsm_notIn (hu : X.A.units + 66 < cLine) : TsM X E (compareOp .NotIn) (gIn true) :=
  ⟨_, OpR.or op_notIn_sign (op_niD hu), in_fin (X := X) (neg := true) (r1 := fun x y H Q => ∃ (c : Nat) (z : Str), x = .str ⟨#[c]⟩ ∧ y = .str z ∧ Q (.bl (!decide (c ∈ z.cps.toList))) H) fun c z H Q q => ⟨c, ⟨z.toArray⟩, rfl, rfl, by
    have e : (!decide (c ∈ (⟨z.toArray⟩ : Str).cps.toList)) = !decide (c ∈ z) := by rw [List.toList_toArray]
    rw [e]; exact q⟩⟩
end
end Mx

set_option linter.all false
set_option maxRecDepth 100000
set_option maxHeartbeats 4000000
namespace Mx
open PySem PySem.Spec PyProof.Rows L2

/-! ### items and slices -/
def gIx : Val → Val → M Val
  | .str z, .int i, S => if z.length ≤ lim then (match atI z i with | some c => .ok (.str [c]) S | none => .bad) else .bad
  | .tup xs, .int i, S => match atI xs i with | some x => .ok x S | none => .bad
  | .loc n, .int i, S => match S[n]? with
    | some (.lst xs) => (match atI xs i with | some x => .ok x S | none => .bad)
    | none => .bad
  | .kl xs, .int i, S => match atI xs i with | some x => .ok x S | none => .bad
  | _, _, _ => .bad
section
variable {K : PySem.W.Frag} {io : List Addr} {H : Hp}
theorem VRs.atI {xs : List Val} {vs : List V} {i : Int} {x : Val} (k : VRs K io H xs vs) (h : atI xs i = some x) : ∃ v, L2.atI vs i = some v ∧ VR K io H x v := by
  unfold L2.atI at h ⊢
  rw [k.length]
  cases e : ixN xs.length i with
  | none => rw [e] at h; cases h
  | some j =>
    rw [e] at h
    have h' : xs[j]? = some x := h
    obtain ⟨v, e2, r⟩ := k.get h'
    exact ⟨v, e2, r⟩
theorem VRs.cut {xs : List Val} {vs : List V} (lo hi : Option Int) (k : VRs K io H xs vs) : VRs K io H ((xs.drop (HT.sIx xs.length 0 lo)).take (HT.sIx xs.length xs.length hi - HT.sIx xs.length 0 lo)) (cutV vs lo hi) := by
  unfold cutV
  rw [k.length]
  exact (k.drop _).take _
end
section
variable {X : Cx} {E : XK} {a b e : Expr} {ma mb : Ev → M Val} {pos : Pos}
theorem pem_ix (ha : PEm X E a ma) (hb : PEm X E b mb) (hs : PlainIx b := by exact fun _ _ => rfl) : PEm X E (.Subscript a b pos) (mOp gIx ma mb) := by
  obtain ⟨ta, pa, qa⟩ := ha.ex
  obtain ⟨tb, pb, qb⟩ := hb.ex
  refine ⟨_, pe_ix ix_seq pa pb hs, fun io σ H env S Q er sr h => ?_⟩
  refine run2 qa qb er sr h fun io2 H2 S2 x y v w l2 s r1 r2 h => ?_
  cases x with
  | str z =>
    cases y with
    | int i =>
      cases (show v = .str _ from r1)
      cases (show w = .int i from r2)
      simp only [gIx] at h
      by_cases hl : z.length ≤ lim
      · rw [if_pos hl] at h
        cases ei : atI z i with
        | none => simp only [ei] at h; exact h.elim
        | some c =>
          simp only [ei] at h
          refine .inr (.inr ⟨⟨z.toArray⟩, i, c, rfl, rfl, ?_, ?_, fin_here h s rfl⟩)
          · show z.toArray.size ≤ sizeLine
            rw [List.size_toArray]
            exact lim_le hl
          · rw [List.toList_toArray]
            exact ei
      · rw [if_neg hl] at h
        exact h.elim
    | _ => exact h.elim
  | tup xs =>
    cases y with
    | int i =>
      obtain ⟨p, vs, rfl, hp, k⟩ := r1
      cases (show w = .int i from r2)
      simp only [gIx] at h
      cases ei : atI xs i with
      | none => simp only [ei] at h; exact h.elim
      | some x =>
        simp only [ei] at h
        obtain ⟨u, e2, r⟩ := k.atI ei
        exact .inr (.inl ⟨p, vs, i, u, rfl, rfl, hp, e2, fin_here h s r⟩)
    | _ => exact h.elim
  | loc n =>
    cases y with
    | int i =>
      obtain ⟨p, hi, rfl⟩ := r1
      cases (show w = .int i from r2)
      simp only [gIx] at h
      cases eo : S2[n]? with
      | none => simp only [eo] at h; exact h.elim
      | some o =>
        have q := s.is eo hi
        cases o with
        | lst xs =>
          simp only [eo] at h
          obtain ⟨vs, hv, k⟩ := q
          cases ei : atI xs i with
          | none => simp only [ei] at h; exact h.elim
          | some x =>
            simp only [ei] at h
            obtain ⟨u, e2, r⟩ := k.atI ei
            exact .inl ⟨p, vs, i, u, rfl, rfl, SqL.of hv, e2, fin_here h s r⟩
    | _ => exact h.elim
  | kl xs =>
    cases y with
    | int i =>
      obtain ⟨p, vs, rfl, hp, k⟩ := r1
      cases (show w = .int i from r2)
      simp only [gIx] at h
      cases ei : atI xs i with
      | none => simp only [ei] at h; exact h.elim
      | some x =>
        simp only [ei] at h
        obtain ⟨u, e2, r⟩ := k.atI ei
        exact .inl ⟨p, vs, i, u, rfl, rfl, hp.sq, e2, fin_here h s r⟩
    | _ => exact h.elim
  | _ => exact h.elim
structure POm (X : Cx) (E : XK) (e : Option Expr) (m : Ev → M (Option Int)) : Prop where
  ex : ∃ t, PO X e t ∧ ∀ io σ H env S Q, ER X.K io H env σ → SR X.K io H S → FinG X.K (fun _ _ (x y : Option Int) => x = y) E io H Q (m env S) → t σ H Q
def mPart (a : Ev → M Val) : Ev → M (Option Int) := fun env S => (a env S).bind fun x S1 => match x with | .int i => .ok (some i) S1 | _ => .bad
def mNoPart : Ev → M (Option Int) := fun _ S => .ok none S
theorem pom_none : POm X E none mNoPart := ⟨_, po_none, fun io σ H env S Q er sr h => fin_here h sr rfl⟩
theorem pom_some (ha : PEm X E a ma) : POm X E (some a) (mPart ma) := by
  obtain ⟨ta, pa, qa⟩ := ha.ex
  refine ⟨_, po_some pa, fun io σ H env S Q er sr h => ?_⟩
  refine qa io σ H env S _ er sr (fin_bind h fun x S1 io1 H1 v _ l1 s1 r1 h1 => ?_)
  cases x with
  | int i => cases (show v = .int i from r1); exact ⟨i, rfl, fin_here h1 s1 rfl⟩
  | _ => exact h1.elim
/-- the part of a row from lo on below hi -/
def cut {α : Type} (xs : List α) (lo hi : Option Int) : List α := (xs.drop (HT.sIx xs.length 0 lo)).take (HT.sIx xs.length xs.length hi - HT.sIx xs.length 0 lo)
def gSl (lo hi : Option Int) : Val → M Val
  | .str z, S => if z.length ≤ lim then .ok (.str (cut z lo hi)) S else .bad
  | .tup xs, S => .ok (.tup (cut xs lo hi)) S
  | .loc n, S => match S[n]? with
    | some (.lst xs) => .ok (.loc S.length) (S ++ [.lst (cut xs lo hi)])
    | none => .bad
  | .kl xs, S => .ok (.loc S.length) (S ++ [.lst (cut xs lo hi)])
  | _, _ => .bad
def mSl (a : Ev → M Val) (lo hi : Ev → M (Option Int)) : Ev → M Val := fun env S => (a env S).bind fun x S1 => (lo env S1).bind fun l S2 => (hi env S2).bind fun u S3 => gSl l u x S3
theorem newL_fin {io : List Addr} {H : Hp} {S : Sto} {xs : List Val} {vs : List V} {p : Addr} {Q : VK} (s : SR X.K io H S) (k : VRs X.K io H xs vs) (hp : H p = none) (h : FinG X.K (VR X.K) E io H Q (.ok (.loc S.length) (S ++ [.lst xs]))) : Q (.ref p) (upd H p (.lst vs)) := by
  refine fin_ok h (Le.newL hp) (s.newL hp k) ⟨p, ?_, rfl⟩
  rw [← s.len, List.getElem?_append_right (Nat.le_refl _), Nat.sub_self]
  rfl
theorem pem_slice {lo hi : Option Expr} {ml mh : Ev → M (Option Int)} {p2 : Pos} (ha : PEm X E a ma) (hl : POm X E lo ml) (hh : POm X E hi mh) : PEm X E (.Subscript a (.Slice lo hi none p2) pos) (mSl ma ml mh) := by
  obtain ⟨ta, pa, qa⟩ := ha.ex
  obtain ⟨tl, pl, ql⟩ := hl.ex
  obtain ⟨th, ph, qh⟩ := hh.ex
  refine ⟨_, pe_slice (SlR.or sl_list (SlR.or sl_tupA sl_str)) pa pl ph, fun io σ H env S Q er sr h => ?_⟩
  refine qa io σ H env S _ er sr (fin_bind h fun x S1 io1 H1 v _ l1 s1 r1 h1 => ?_)
  refine ql io1 σ H1 env S1 _ (er.mono l1) s1 (fin_bind h1 fun l S2 io2 H2 l' _ l2 s2 r2 h2 => ?_)
  refine qh io2 σ H2 env S2 _ (er.mono (l1.trans l2)) s2 (fin_bind h2 fun u S3 io3 H3 u' _ l3 s3 r3 h3 => ?_)
  cases (show l = l' from r2)
  cases (show u = u' from r3)
  have r := VR.mono (l2.trans l3) _ _ r1
  cases x with
  | str z =>
    cases (show v = .str _ from r)
    simp only [gSl] at h3
    by_cases hz : z.length ≤ lim
    · rw [if_pos hz] at h3
      refine .inr (.inr ⟨⟨z.toArray⟩, rfl, ?_, ?_⟩)
      · show z.toArray.size ≤ sizeLine
        rw [List.size_toArray]
        exact lim_le hz
      · have e : cutS ⟨z.toArray⟩ l u = ⟨(cut z l u).toArray⟩ := by
          unfold cutS cut
          have hz : (⟨z.toArray⟩ : Str).length = z.length := List.size_toArray
          rw [hz, List.toList_toArray]
        rw [e]
        exact fin_here h3 s3 rfl
    · rw [if_neg hz] at h3
      exact h3.elim
  | tup xs =>
    obtain ⟨p, vs, rfl, hp, k⟩ := r
    have c := k.cut l u
    refine .inr (.inl ⟨p, vs, rfl, hp, fun hw => ?_, fun _ q hq => ?_⟩)
    · refine fin_here h3 s3 ⟨p, vs, rfl, hp, ?_⟩
      have e : cut xs l u = xs := by
        unfold cut
        rw [← k.length, hw.1, hw.2, Nat.sub_zero, List.drop_zero, k.length, List.take_length]
      rw [e]
      exact k
    · exact fin_ok h3 (Le.new hq) (s3.new hq) ⟨q, _, rfl, .inl (.inl upd_same), VRs.mono (Le.new hq) _ _ c⟩
  | loc n =>
    obtain ⟨p, hi, rfl⟩ := r
    simp only [gSl] at h3
    cases eo : S3[n]? with
    | none => simp only [eo] at h3; exact h3.elim
    | some o =>
      have q := s3.is eo hi
      cases o with
      | lst xs =>
        simp only [eo] at h3
        obtain ⟨vs, hv, k⟩ := q
        exact .inl ⟨p, vs, rfl, SqL.of hv, fun q hq => newL_fin s3 (k.cut l u) hq h3⟩
  | kl xs =>
    obtain ⟨p, vs, rfl, hp, k⟩ := r
    simp only [gSl] at h3
    exact .inl ⟨p, vs, rfl, hp.sq, fun q hq => newL_fin s3 (k.cut l u) hq h3⟩
  | _ => exact h3.elim
/-- xs[::-1] of a list -/
def gRev : Val → M Val
  | .loc n, S => match S[n]? with
    | some (.lst xs) => .ok (.loc S.length) (S ++ [.lst xs.reverse])
    | _ => .bad
  | _, _ => .bad
theorem pem_rev {k : Nat} {p1 p2 p3 : Pos} (ha : PEm X E a ma) : PEm X E (.Subscript a (.Slice none none (some (.UnaryOp .USub (.Constant (.int 1) k p1) p2)) p3) pos) (mUn gRev ma) := by
  obtain ⟨ta, pa, qa⟩ := ha.ex
  refine ⟨_, pe_revL pa, fun io σ H env S Q er sr h => ?_⟩
  refine qa io σ H env S _ er sr (fin_bind h fun x S1 io1 H1 v _ l1 s1 r1 h1 => ?_)
  cases x with
  | loc n =>
    obtain ⟨p, hi, rfl⟩ := r1
    simp only [gRev] at h1
    cases eo : S1[n]? with
    | none => simp only [eo] at h1; exact h1.elim
    | some o =>
      have q := s1.is eo hi
      cases o with
      | lst xs =>
        simp only [eo] at h1
        obtain ⟨vs, hv, k⟩ := q
        exact ⟨p, vs, rfl, SqL.of hv, fun q hq => newL_fin s1 k.rev hq h1⟩
  | _ => exact h1.elim

/-! ### lists that are read -/
/-- the list that a thing is -/
structure LView {α : Type} (K : PySem.W.Frag) (R : Hp → List Addr → Hp → α → V → Prop) (L : α → Sto → Option (List Val)) : Prop where
  mono : ∀ {B H H' : Hp} {io io' : List Addr} {x : α} {v : V}, Le K io H io' H' → R B io H x v → R B io' H' x v
  at_ : ∀ {B H : Hp} {io : List Addr} {S : Sto} {x : α} {v : V} {xs : List Val}, SR K io H S → R B io H x v → L x S = some xs → ∃ a vs, v = .ref a ∧ H a = some (.lst vs) ∧ VRs K io H xs vs
def asL (xs : List Val) (_ : Sto) : Option (List Val) := some xs
def asE (x : Val) (S : Sto) : Option (List Val) := match x with
  | .loc n => (match S[n]? with | some (.lst xs) => some xs | _ => none)
  | _ => none
theorem lvL {K : PySem.W.Frag} : LView K (RL K) asL := ⟨RL.mono, fun s r e => by
  obtain ⟨a, vs, rfl, hv, _, _, k⟩ := r
  cases e
  exact ⟨a, vs, rfl, hv, k⟩⟩
theorem lvE {K : PySem.W.Frag} : LView K (fun _ => VR K) asE := ⟨fun l r => VR.mono l _ _ r, fun {B H io S x v xs} s r e => by
  cases x with
  | loc n =>
    obtain ⟨p, hi, rfl⟩ := r
    simp only [asE] at e
    cases eo : S[n]? with
    | none => simp only [eo] at e; cases e
    | some o =>
      have q := s.is eo hi
      cases o with
      | lst ys =>
        simp only [eo] at e
        cases e
        obtain ⟨vs, hv, k⟩ := q
        exact ⟨p, vs, rfl, hv, k⟩
  | _ => cases e⟩
def mCat {α β : Type} (L : α → Sto → Option (List Val)) (L' : β → Sto → Option (List Val)) (a : Ev → M α) (b : Ev → M β) : Ev → M (List Val) := fun env S => (a env S).bind fun x S1 => (b env S1).bind fun y S2 =>
  match L x S2, L' y S2 with
  | some xs, some ys => if xs.length + ys.length ≤ lim then .ok (xs ++ ys) S2 else .bad
  | _, _ => .bad
theorem plm_cat {α β : Type} {R : Hp → List Addr → Hp → α → V → Prop} {R' : Hp → List Addr → Hp → β → V → Prop} {L : α → Sto → Option (List Val)} {L' : β → Sto → Option (List Val)} {ma : Ev → M α} {mb : Ev → M β}
    (w : LView X.K R L) (w' : LView X.K R' L') (ha : PXm X E R a ma) (hb : PXm X E R' b mb) : PLm X E (.BinOp a .Add b pos) (mCat L L' ma mb) := by
  obtain ⟨ta, pa, qa⟩ := ha.ex
  obtain ⟨tb, pb, qb⟩ := hb.ex
  refine ⟨_, pe_op op_cat pa pb, fun io σ H env S Q er sr h => ?_⟩
  refine qa io σ H env S _ er sr (fin_bind h fun x S1 io1 H1 v _ l1 s1 r1 h1 => ?_)
  refine qb io1 σ H1 env S1 _ (er.mono l1) s1 (fin_bind h1 fun y S2 io2 H2 u _ l2 s2 r2 h2 => ?_)
  cases e1 : L x S2 with
  | none => simp only [e1] at h2; exact h2.elim
  | some xs =>
    cases e2 : L' y S2 with
    | none => simp only [e1, e2] at h2; exact h2.elim
    | some ys =>
      simp only [e1, e2] at h2
      obtain ⟨p, vs, rfl, hv, k⟩ := w.at_ s2 (w.mono l2 r1) e1
      obtain ⟨q, ws, rfl, hw, k'⟩ := w'.at_ s2 r2 e2
      by_cases hz : xs.length + ys.length ≤ lim
      · rw [if_pos hz] at h2
        refine ⟨p, q, vs, ws, rfl, rfl, hv, hw, by rw [k.length, k'.length]; exact lim_le hz, fun t ht => ?_⟩
        obtain ⟨f1, f2⟩ := fresh (l1.trans l2) s2 ht
        exact fin_ok h2 (Le.new ht) (s2.new ht) ⟨t, _, rfl, upd_same, f1, f2, VRs.mono (Le.new ht) _ _ (k.app k')⟩
      · rw [if_neg hz] at h2
        exact h2.elim
end
end Mx

set_option linter.all false
set_option maxRecDepth 100000
set_option maxHeartbeats 4000000
namespace Mx
open PySem PySem.Spec PyProof.Rows L2

/-! ### calls of built-ins -/
section
variable {X : Cx} {E : XK} {a b e o : Expr} {es : List Expr} {ma mb : Ev → M Val} {pos p : Pos} {x : Str} {id T : String}
/-- one argument that is a value -/
def UnM (X : Cx) (E : XK) (f : Value) (g : Val → M Val) : Prop :=
  ∃ r, CallR X f r ∧ ∀ io H S x v Q, SR X.K io H S → VR X.K io H x v → FinG X.K (VR X.K) E io H Q (g x S) → r [v] H Q
theorem pem_b1 {g : Val → M Val} (ho : UnM X E (.builtin id) g) (hm : X.mg x = none) (ha : PEm X E a ma) (hv : bootBuiltins x = some (.builtin id) := by decide +kernel) (hg : Gl X x := by rfl) (hn : x ≠ "__name__" := by decide) (hdb : (x == ("__debug__" : Str)) = false := by decide)
    (he : starEach [a] X.env = [(false, eval a X.env)] := by rfl) (hpl : (backTo pos (starEach [] X.env)).any (·.1) = false := by rfl) : PEm X E (.Call (.Name x p) [a] [] pos) (mUn g ma) := by
  obtain ⟨ta, pa, qa⟩ := ha.ex
  obtain ⟨r, pr, qr⟩ := ho
  refine ⟨_, pe_callB pr hg hm hv (pa_cons pa pa_nil he) hn hdb he hpl, fun io σ H env S Q er sr h => ?_⟩
  exact qa io σ H env S _ er sr (fin_bind h fun x S1 io1 H1 v _ l1 s1 r1 h1 => qr io1 H1 S1 x v Q s1 r1 h1)
theorem pem_t1 {g : Val → M Val} (ho : UnM X E (.type T) g) (hm : X.mg x = none) (ha : PEm X E a ma) (hv : bootBuiltins x = some (.type T) := by decide +kernel) (hg : Gl X x := by rfl) (hn : x ≠ "__name__" := by decide) (hdb : (x == ("__debug__" : Str)) = false := by decide)
    (he : starEach [a] X.env = [(false, eval a X.env)] := by rfl) (hpl : (backTo pos (starEach [] X.env)).any (·.1) = false := by rfl) : PEm X E (.Call (.Name x p) [a] [] pos) (mUn g ma) := by
  obtain ⟨ta, pa, qa⟩ := ha.ex
  obtain ⟨r, pr, qr⟩ := ho
  refine ⟨_, pe_callTy pr hg hm hv (pa_cons pa pa_nil he) hn hdb he hpl, fun io σ H env S Q er sr h => ?_⟩
  exact qa io σ H env S _ er sr (fin_bind h fun x S1 io1 H1 v _ l1 s1 r1 h1 => qr io1 H1 S1 x v Q s1 r1 h1)
/-- one argument that is a list -/
def LiM (X : Cx) (E : XK) (f : Value) (g : List Val → M Val) : Prop :=
  ∃ r, CallR X f r ∧ ∀ io H S xs vs a Q, SR X.K io H S → H a = some (.lst vs) → VRs X.K io H xs vs → FinG X.K (VR X.K) E io H Q (g xs S) → r [.ref a] H Q
def mLi {α : Type} (L : α → Sto → Option (List Val)) (g : List Val → M Val) (m : Ev → M α) : Ev → M Val := fun env S => (m env S).bind fun x S1 => match L x S1 with
  | some xs => g xs S1
  | none => .bad
section
variable {α : Type} {R : Hp → List Addr → Hp → α → V → Prop} {L : α → Sto → Option (List Val)} {ml : Ev → M α}
theorem li_run (w : LView X.K R L) {t : TE} {r : List V → Hp → VK → Prop} {g : List Val → M Val} (qa : ∀ io σ H env S Q, ER X.K io H env σ → SR X.K io H S → FinG X.K (R H) E io H Q (ml env S) → t σ H Q)
    (qr : ∀ io H S xs vs a Q, SR X.K io H S → H a = some (.lst vs) → VRs X.K io H xs vs → FinG X.K (VR X.K) E io H Q (g xs S) → r [.ref a] H Q)
    {io : List Addr} {σ : L2.St} {H : Hp} {env : Ev} {S : Sto} {Q : VK} (er : ER X.K io H env σ) (sr : SR X.K io H S) (h : FinG X.K (VR X.K) E io H Q (mLi L g ml env S)) : tCB r (tCons t tNil) σ H Q := by
  refine qa io σ H env S _ er sr (fin_bind h fun x S1 io1 H1 v _ l1 s1 r1 h1 => ?_)
  cases e1 : L x S1 with
  | none => simp only [e1] at h1; exact h1.elim
  | some xs =>
    simp only [e1] at h1
    obtain ⟨q, vs, rfl, hv, k⟩ := w.at_ s1 r1 e1
    exact qr io1 H1 S1 xs vs q Q s1 hv k h1
theorem pem_bL (w : LView X.K R L) {g : List Val → M Val} (ho : LiM X E (.builtin id) g) (hm : X.mg x = none) (ha : PXm X E R a ml) (hv : bootBuiltins x = some (.builtin id) := by decide +kernel) (hg : Gl X x := by rfl) (hn : x ≠ "__name__" := by decide) (hdb : (x == ("__debug__" : Str)) = false := by decide)
    (he : starEach [a] X.env = [(false, eval a X.env)] := by rfl) (hpl : (backTo pos (starEach [] X.env)).any (·.1) = false := by rfl) : PEm X E (.Call (.Name x p) [a] [] pos) (mLi L g ml) := by
  obtain ⟨ta, pa, qa⟩ := ha.ex
  obtain ⟨r, pr, qr⟩ := ho
  exact ⟨_, pe_callB pr hg hm hv (pa_cons pa pa_nil he) hn hdb he hpl, fun io σ H env S Q er sr h => li_run w qa qr er sr h⟩
theorem pem_tL (w : LView X.K R L) {g : List Val → M Val} (ho : LiM X E (.type T) g) (hm : X.mg x = none) (ha : PXm X E R a ml) (hv : bootBuiltins x = some (.type T) := by decide +kernel) (hg : Gl X x := by rfl) (hn : x ≠ "__name__" := by decide) (hdb : (x == ("__debug__" : Str)) = false := by decide)
    (he : starEach [a] X.env = [(false, eval a X.env)] := by rfl) (hpl : (backTo pos (starEach [] X.env)).any (·.1) = false := by rfl) : PEm X E (.Call (.Name x p) [a] [] pos) (mLi L g ml) := by
  obtain ⟨ta, pa, qa⟩ := ha.ex
  obtain ⟨r, pr, qr⟩ := ho
  exact ⟨_, pe_callTy pr hg hm hv (pa_cons pa pa_nil he) hn hdb he hpl, fun io σ H env S Q er sr h => li_run w qa qr er sr h⟩
end
/-! len, tuple, list, all, any, sum, abs -/
def gLen : Val → M Val
  | .str z, S => if z.length ≤ lim then .ok (.int z.length) S else .bad
  | .tup xs, S => .ok (.int xs.length) S
  | .loc n, S => match S[n]? with
    | some (.lst xs) => .ok (.int xs.length) S
    | none => .bad
  | .kl xs, S => .ok (.int xs.length) S
  | _, _ => .bad
theorem unm_len : UnM X E (.builtin "len") gLen := by
  refine ⟨_, call_len, fun io H S x v Q s r h => ?_⟩
  cases x with
  | str z =>
    cases (show v = .str _ from r)
    simp only [gLen] at h
    by_cases hz : z.length ≤ lim
    · rw [if_pos hz] at h
      have e : (⟨z.toArray⟩ : Str).length = z.length := List.size_toArray
      exact ⟨_, z.length, rfl, ⟨by rw [e]; exact lim_le hz, e.symm⟩, fin_here h s rfl⟩
    · rw [if_neg hz] at h
      exact h.elim
  | tup xs =>
    obtain ⟨q, vs, rfl, hp, k⟩ := r
    exact ⟨_, xs.length, rfl, .inr ⟨vs, hp, k.length.symm⟩, fin_here h s rfl⟩
  | loc n =>
    obtain ⟨q, hi, rfl⟩ := r
    simp only [gLen] at h
    cases eo : S[n]? with
    | none => simp only [eo] at h; exact h.elim
    | some o =>
      have w := s.is eo hi
      cases o with
      | lst xs =>
        simp only [eo] at h
        obtain ⟨vs, hv, k⟩ := w
        exact ⟨_, xs.length, rfl, .inl ⟨vs, SqL.of hv, k.length.symm⟩, fin_here h s rfl⟩
  | kl xs =>
    obtain ⟨q, vs, rfl, hp, k⟩ := r
    exact ⟨_, xs.length, rfl, .inl ⟨vs, hp.sq, k.length.symm⟩, fin_here h s rfl⟩
  | _ => exact h.elim
def lLen (xs : List Val) : M Val := fun S => .ok (.int xs.length) S
theorem lim_len : LiM X E (.builtin "len") lLen :=
  ⟨_, call_len, fun io H S xs vs a Q s hv k h => ⟨_, xs.length, rfl, .inl ⟨vs, SqL.of hv, k.length.symm⟩, fin_here h s rfl⟩⟩
def gTup : Val → M Val
  | .tup xs, S => .ok (.tup xs) S
  | .loc n, S => match S[n]? with
    | some (.lst xs) => .ok (.tup xs) S
    | none => .bad
  | .kl xs, S => .ok (.tup xs) S
  | _, _ => .bad
theorem newT_fin {io : List Addr} {H : Hp} {S : Sto} {xs : List Val} {vs : List V} {p : Addr} {Q : VK} (s : SR X.K io H S) (k : VRs X.K io H xs vs) (hp : H p = none) (h : FinG X.K (VR X.K) E io H Q (.ok (.tup xs) S)) : Q (.ref p) (upd H p (.tup vs)) :=
  fin_ok h (Le.new hp) (s.new hp) ⟨p, vs, rfl, .inl (.inl upd_same), VRs.mono (Le.new hp) _ _ k⟩
theorem unm_tup : UnM X E (.type "tuple") gTup := by
  refine ⟨_, call_tuple_of, fun io H S x v Q s r h => ?_⟩
  cases x with
  | tup xs =>
    obtain ⟨q, vs, rfl, hp, k⟩ := r
    exact ⟨q, vs, rfl, .inr ⟨hp, fin_here h s ⟨q, vs, rfl, hp, k⟩⟩⟩
  | loc n =>
    obtain ⟨q, hi, rfl⟩ := r
    simp only [gTup] at h
    cases eo : S[n]? with
    | none => simp only [eo] at h; exact h.elim
    | some o =>
      have w := s.is eo hi
      cases o with
      | lst xs =>
        simp only [eo] at h
        obtain ⟨vs, hv, k⟩ := w
        exact ⟨q, vs, rfl, .inl ⟨SqL.of hv, fun l hl => newT_fin s k hl h⟩⟩
  | kl xs =>
    obtain ⟨q, vs, rfl, hp, k⟩ := r
    exact ⟨q, vs, rfl, .inl ⟨hp.sq, fun l hl => newT_fin s k hl h⟩⟩
  | _ => exact h.elim
def lTup (xs : List Val) : M Val := fun S => .ok (.tup xs) S
theorem lim_tup : LiM X E (.type "tuple") lTup :=
  ⟨_, call_tuple_of, fun io H S xs vs a Q s hv k h => ⟨a, vs, rfl, .inl ⟨SqL.of hv, fun l hl => newT_fin s k hl h⟩⟩⟩
/-- list(x): a list that the store does not hold -/
def gLst : Val → M (List Val)
  | .tup xs, S => .ok xs S
  | .loc n, S => match S[n]? with
    | some (.lst xs) => .ok xs S
    | none => .bad
  | .kl xs, S => .ok xs S
  | _, _ => .bad
def mUnL (g : Val → M (List Val)) (a : Ev → M Val) : Ev → M (List Val) := fun env S => (a env S).bind fun x S1 => g x S1
theorem newR_fin {B : Hp} {io0 io : List Addr} {H : Hp} {S : Sto} {xs : List Val} {vs : List V} {p : Addr} {Q : VK} (l : Le X.K io0 B io H) (s : SR X.K io H S) (k : VRs X.K io H xs vs) (hp : H p = none) (h : FinG X.K (RL X.K B) E io H Q (.ok xs S)) : Q (.ref p) (upd H p (.lst vs)) := by
  obtain ⟨f1, f2⟩ := fresh l s hp
  exact fin_ok h (Le.new hp) (s.new hp) ⟨p, vs, rfl, upd_same, f1, f2, VRs.mono (Le.new hp) _ _ k⟩
theorem plm_list (hm : X.mg "list" = none) (ha : PEm X E a ma) (hg : Gl X "list" := by rfl)
    (he : starEach [a] X.env = [(false, eval a X.env)] := by rfl) (hpl : (backTo pos (starEach [] X.env)).any (·.1) = false := by rfl) : PLm X E (.Call (.Name "list" p) [a] [] pos) (mUnL gLst ma) := by
  obtain ⟨ta, pa, qa⟩ := ha.ex
  refine ⟨_, pe_callTy call_list_of hg hm (by decide +kernel) (pa_cons pa pa_nil he) (by decide) (by decide) he hpl, fun io σ H env S Q er sr h => ?_⟩
  refine qa io σ H env S _ er sr (fin_bind h fun x S1 io1 H1 v _ l1 s1 r h1 => ?_)
  cases x with
  | tup xs =>
    obtain ⟨q, vs, rfl, hp, k⟩ := r
    exact ⟨q, vs, rfl, .inr hp, fun l hl => newR_fin l1 s1 k hl h1⟩
  | loc n =>
    obtain ⟨q, hi, rfl⟩ := r
    simp only [gLst] at h1
    cases eo : S1[n]? with
    | none => simp only [eo] at h1; exact h1.elim
    | some o =>
      have w := s1.is eo hi
      cases o with
      | lst xs =>
        simp only [eo] at h1
        obtain ⟨vs, hv, k⟩ := w
        exact ⟨q, vs, rfl, .inl (SqL.of hv), fun l hl => newR_fin l1 s1 k hl h1⟩
  | kl xs =>
    obtain ⟨q, vs, rfl, hp, k⟩ := r
    exact ⟨q, vs, rfl, .inl hp.sq, fun l hl => newR_fin l1 s1 k hl h1⟩
  | _ => exact h1.elim
def asBls : List Val → Option (List Bool)
  | [] => some []
  | .bl b :: r => (asBls r).map (b :: ·)
  | _ :: _ => none
theorem asBls_eq : ∀ {xs : List Val} {bs : List Bool}, asBls xs = some bs → xs = bs.map Val.bl
  | [], bs, h => by cases h; rfl
  | .bl b :: r, bs, h => by
    simp only [asBls] at h
    cases e : asBls r with
    | none => rw [e] at h; cases h
    | some cs => rw [e] at h; cases h; rw [asBls_eq e]; rfl
  | .non :: _, _, h => nomatch h
  | .int _ :: _, _, h => nomatch h
  | .str _ :: _, _, h => nomatch h
  | .tup _ :: _, _, h => nomatch h
  | .kl _ :: _, _, h => nomatch h
  | .loc _ :: _, _, h => nomatch h
  | .ext _ :: _, _, h => nomatch h
theorem asBls_map : ∀ (bs : List Bool), asBls (bs.map Val.bl) = some bs
  | [] => rfl
  | b :: r => by simp only [List.map_cons, asBls, asBls_map r]; rfl
def asInts : List Val → Option (List Int)
  | [] => some []
  | .int b :: r => (asInts r).map (b :: ·)
  | _ :: _ => none
theorem asInts_eq : ∀ {xs : List Val} {bs : List Int}, asInts xs = some bs → xs = bs.map Val.int
  | [], bs, h => by cases h; rfl
  | .int b :: r, bs, h => by
    simp only [asInts] at h
    cases e : asInts r with
    | none => rw [e] at h; cases h
    | some cs => rw [e] at h; cases h; rw [asInts_eq e]; rfl
  | .non :: _, _, h => nomatch h
  | .bl _ :: _, _, h => nomatch h
  | .str _ :: _, _, h => nomatch h
  | .tup _ :: _, _, h => nomatch h
  | .kl _ :: _, _, h => nomatch h
  | .loc _ :: _, _, h => nomatch h
  | .ext _ :: _, _, h => nomatch h
theorem asInts_map : ∀ (bs : List Int), asInts (bs.map Val.int) = some bs
  | [] => rfl
  | b :: r => by simp only [List.map_cons, asInts, asInts_map r]; rfl
def asStrs : List Val → Option (List (List Nat))
  | [] => some []
  | .str b :: r => (asStrs r).map (b :: ·)
  | _ :: _ => none
theorem asStrs_eq : ∀ {xs : List Val} {bs : List (List Nat)}, asStrs xs = some bs → xs = bs.map Val.str
  | [], bs, h => by cases h; rfl
  | .str b :: r, bs, h => by
    simp only [asStrs] at h
    cases e : asStrs r with
    | none => rw [e] at h; cases h
    | some cs => rw [e] at h; cases h; rw [asStrs_eq e]; rfl
  | .non :: _, _, h => nomatch h
  | .bl _ :: _, _, h => nomatch h
  | .int _ :: _, _, h => nomatch h
  | .tup _ :: _, _, h => nomatch h
  | .kl _ :: _, _, h => nomatch h
  | .loc _ :: _, _, h => nomatch h
  | .ext _ :: _, _, h => nomatch h
theorem asStrs_map : ∀ (bs : List (List Nat)), asStrs (bs.map Val.str) = some bs
  | [] => rfl
  | b :: r => by simp only [List.map_cons, asStrs, asStrs_map r]; rfl
def lAll (xs : List Val) : M Val := fun S => match asBls xs with | some bs => .ok (.bl (bs.all fun b => b)) S | none => .bad
def lAny (xs : List Val) : M Val := fun S => match asBls xs with | some bs => .ok (.bl (bs.any fun b => b)) S | none => .bad
def lSum (xs : List Val) : M Val := fun S => match asInts xs with | some bs => .ok (.int bs.sum) S | none => .bad
theorem lim_all (hc : X.calm = true) : LiM X E (.builtin "all") lAll := ⟨_, cr_all hc, fun io H S xs vs a Q s hv k h => by
  cases e : asBls xs with
  | none => simp only [lAll, e] at h; exact h.elim
  | some bs =>
    simp only [lAll, e] at h
    have ev : vs = bs.map V.bl := by rw [asBls_eq e] at k; exact k.bls
    subst ev
    exact ⟨a, bs, rfl, SqL.of hv, fin_here h s rfl⟩⟩
theorem lim_any (hc : X.calm = true) : LiM X E (.builtin "any") lAny := ⟨_, cr_any hc, fun io H S xs vs a Q s hv k h => by
  cases e : asBls xs with
  | none => simp only [lAny, e] at h; exact h.elim
  | some bs =>
    simp only [lAny, e] at h
    have ev : vs = bs.map V.bl := by rw [asBls_eq e] at k; exact k.bls
    subst ev
    exact ⟨a, bs, rfl, SqL.of hv, fin_here h s rfl⟩⟩
theorem lim_sum (hc : X.calm = true) : LiM X E (.builtin "sum") lSum := ⟨_, cr_sum hc, fun io H S xs vs a Q s hv k h => by
  cases e : asInts xs with
  | none => simp only [lSum, e] at h; exact h.elim
  | some bs =>
    simp only [lSum, e] at h
    have ev : vs = bs.map V.int := by rw [asInts_eq e] at k; exact k.ints
    subst ev
    exact ⟨a, bs, rfl, SqL.of hv, fin_here h s rfl⟩⟩
def gAbs : Val → M Val
  | .int i, S => .ok (.int (if i < 0 then -i else i)) S
  | _, _ => .bad
theorem unm_abs : UnM X E (.builtin "abs") gAbs := ⟨_, call_abs, fun io H S x v Q s r h => by
  cases x with
  | int i => cases (show v = .int i from r); exact ⟨i, rfl, fin_here h s rfl⟩
  | _ => exact h.elim⟩
def gInt : Val → M Val
  | .int i, S => .ok (.int i) S
  | .bl b, S => .ok (.int (if b then 1 else 0)) S
  | _, _ => .bad
theorem unm_int : UnM X E (.type "int") gInt := ⟨_, call_int1, fun io H S x v Q s r h => by
  cases x with
  | int i => cases (show v = .int i from r); exact .inl ⟨i, rfl, fin_here h s rfl⟩
  | bl b => cases (show v = .bl b from r); exact .inr ⟨b, rfl, fin_here h s rfl⟩
  | _ => exact h.elim⟩

/-! ### isinstance(x, T), T one of the built-in types -/
def tyOf (x : Val) (S : Sto) : Option String := match x with
  | .non => some "NoneType"
  | .bl _ => some "bool"
  | .int _ => some "int"
  | .str _ => some "str"
  | .tup _ => some "tuple"
  | .kl _ => some "list"
  | .loc n => (match S[n]? with | some _ => some "list" | none => none)
  | .ext _ => none
def isT (a T : String) : Bool := a == T || (a == "bool" && T == "int")
def mIsi (T : String) (a : Ev → M Val) : Ev → M Val := fun env S => (a env S).bind fun x S1 => match tyOf x S1 with
  | some t => .ok (.bl (isT t T)) S1
  | none => .bad
theorem kit_all : (["NoneType", "bool", "int", "str", "tuple", "list"].all fun a => ["int", "bool", "str", "tuple", "list", "dict"].all fun T => decide (kitB a T = some (isT a T))) = true := by decide +kernel
theorem kit_at {a T : String} (h1 : a ∈ ["NoneType", "bool", "int", "str", "tuple", "list"]) (h2 : T ∈ ["int", "bool", "str", "tuple", "list", "dict"]) : kitB a T = some (isT a T) :=
  of_decide_eq_true (List.all_eq_true.mp (List.all_eq_true.mp kit_all a h1) T h2)
theorem tyOf_ok {K : PySem.W.Frag} {io : List Addr} {H : Hp} {S : Sto} {x : Val} {v : V} {t : String} (s : SR K io H S) (r : VR K io H x v) (h : tyOf x S = some t) : TyX K H v (.type t) ∧ t ∈ ["NoneType", "bool", "int", "str", "tuple", "list"] := by
  cases x with
  | non => cases (show v = .non from r); cases h; exact ⟨.base .non, by decide⟩
  | bl b => cases (show v = .bl b from r); cases h; exact ⟨.base (.bl b), by decide⟩
  | int b => cases (show v = .int b from r); cases h; exact ⟨.base (.int b), by decide⟩
  | str b => cases (show v = .str _ from r); cases h; exact ⟨.base (.str _), by decide⟩
  | tup xs =>
    obtain ⟨q, vs, rfl, hp, k⟩ := r
    cases h
    rcases hp with (hp | ⟨o, hp⟩) | ⟨o, its, n, h1, h2, _⟩
    · exact ⟨.base (.tup hp), by decide⟩
    · exact ⟨.fTuple hp, by decide⟩
    · exact ⟨.kTuple h1 h2, by decide⟩
  | kl xs =>
    obtain ⟨q, vs, rfl, hp, k⟩ := r
    cases h
    rcases hp with ⟨o, hp⟩ | ⟨o, its, n, h1, h2, _⟩
    · exact ⟨.base (.frz hp), by decide⟩
    · exact ⟨.kList h1 h2, by decide⟩
  | loc n =>
    obtain ⟨q, hi, rfl⟩ := r
    simp only [tyOf] at h
    cases eo : S[n]? with
    | none => simp only [eo] at h; cases h
    | some o =>
      simp only [eo] at h
      cases h
      have w := s.is eo hi
      cases o with
      | lst xs => obtain ⟨vs, hv, k⟩ := w; exact ⟨.base (.lst hv), by decide⟩
  | ext _ => cases h
theorem pem_isi {y : Str} {q : Pos} (hT : T ∈ ["int", "bool", "str", "tuple", "list", "dict"]) (hm : X.mg "isinstance" = none) (hmT : X.mg y = none) (ha : PEm X E a ma) (hvT : bootBuiltins y = some (.type T) := by decide +kernel)
    (hg : Gl X "isinstance" := by rfl) (hgT : Gl X y := by rfl) (hn : y ≠ "__name__" := by decide) (hdb : (y == ("__debug__" : Str)) = false := by decide)
    (he : starEach [a, .Name y q] X.env = (false, eval a X.env) :: starEach [.Name y q] X.env := by rfl) (he2 : starEach [.Name y q] X.env = [(false, eval (.Name y q) X.env)] := by rfl) (hpl : (backTo pos (starEach [.Name y q] X.env)).any (·.1) = false := by rfl) :
    PEm X E (.Call (.Name "isinstance" p) [a, .Name y q] [] pos) (mIsi T ma) := by
  obtain ⟨ta, pa, qa⟩ := ha.ex
  refine ⟨_, pe_callB call_isi hg hm (by decide +kernel) (pa_cons pa (pa_cons (pe_bltn (v := .ty T) hgT hmT hvT rfl hn hdb) pa_nil he2) he) (by decide) (by decide) he hpl, fun io σ H env S Q er sr h => ?_⟩
  refine qa io σ H env S _ er sr (fin_bind h fun x S1 io1 H1 v _ l1 s1 r h1 => ?_)
  cases e : tyOf x S1 with
  | none => simp only [e] at h1; exact h1.elim
  | some t =>
    simp only [e] at h1
    obtain ⟨k1, k2⟩ := tyOf_ok s1 r e
    exact ⟨v, .ty T, .type t, .type T, isT t T, rfl, .ty T, k1, kit_ty (kit_at k2 hT), fin_here h1 s1 rfl⟩

/-! ### sep.join(a list) -/
def lJoin (sep : List Nat) (xs : List Val) : M Val := fun S => match asStrs xs with
  | some ys => if (ys.map List.length).sum + ys.length * sep.length ≤ lim then .ok (.str (TL.joinL sep ys)) S else .bad
  | none => .bad
def mJoin {α : Type} (L : α → Sto → Option (List Val)) (o : Ev → M Val) (m : Ev → M α) : Ev → M Val := fun env S => (o env S).bind fun z S1 => match z with
  | .str sep => (m env S1).bind fun x S2 => (match L x S2 with
    | some xs => lJoin sep xs S2
    | none => .bad)
  | _ => .bad
theorem str_of_tl {x : Str} {z : List Nat} (h : x.cps.toList = z) : x = ⟨z.toArray⟩ := by
  subst h
  cases x
  rfl
theorem pem_join {α : Type} {R : Hp → List Addr → Hp → α → V → Prop} {L : α → Sto → Option (List Val)} {ml : Ev → M α} {apos : Pos} (w : LView X.K R L) (ho : PEm X E o ma) (ha : PXm X E R a ml) (hs : starEach [a] X.env = [(false, eval a X.env)] := by rfl)
    (hbase : attributeBase o "join" X.env (eval o X.env) = eval o X.env := by rfl) (hline : (apos.endLine == pos.line) = true := by rfl) : PEm X E (.Call (.Attribute o "join" apos) [a] [] pos) (mJoin L ma ml) := by
  obtain ⟨to, po, qo⟩ := ho.ex
  obtain ⟨ta, pa, qa⟩ := ha.ex
  refine ⟨_, pe_join po pa hs hbase hline, fun io σ H env S Q er sr h => ?_⟩
  refine qo io σ H env S _ er sr (fin_bind h fun z S1 io1 H1 v _ l1 s1 r1 h1 => ?_)
  cases z with
  | str sep =>
    cases (show v = .str _ from r1)
    refine ⟨⟨_, rfl⟩, ?_⟩
    refine qa io1 σ H1 env S1 _ (er.mono l1) s1 (fin_bind h1 fun x S2 io2 H2 v _ l2 s2 r2 h2 => ?_)
    cases e1 : L x S2 with
    | none => simp only [e1] at h2; exact h2.elim
    | some xs =>
      simp only [e1] at h2
      obtain ⟨q, vs, rfl, hv, k⟩ := w.at_ s2 r2 e1
      unfold lJoin at h2
      cases e2 : asStrs xs with
      | none => simp only [e2] at h2; exact h2.elim
      | some ys =>
        simp only [e2] at h2
        by_cases hz : (ys.map List.length).sum + ys.length * sep.length ≤ lim
        · rw [if_pos hz] at h2
          have ev : vs = (ys.map fun y => (⟨y.toArray⟩ : Str)).map V.str := by
            rw [asStrs_eq e2] at k
            rw [List.map_map]
            exact k.strs
          subst ev
          refine ⟨_, q, ys.map fun y => (⟨y.toArray⟩ : Str), rfl, rfl, .inl (SqL.of hv), ?_, ?_⟩
          · rw [List.map_map, List.length_map]
            have e3 : (ys.map (Str.length ∘ fun y => (⟨y.toArray⟩ : Str))) = ys.map List.length := List.map_congr_left fun y _ => List.size_toArray
            have e4 : (⟨sep.toArray⟩ : Str).length = sep.length := List.size_toArray
            rw [e3, e4]
            exact Nat.le_trans hz (by decide)
          · have e5 : Txt.join ⟨sep.toArray⟩ (ys.map fun y => (⟨y.toArray⟩ : Str)) = ⟨(TL.joinL sep ys).toArray⟩ := by
              refine str_of_tl ?_
              rw [TL.join_eq]
              have e6 := TL.tl_join ⟨sep.toArray⟩ (ys.map fun y => (⟨y.toArray⟩ : Str))
              have e7 : (ys.map fun y => (⟨y.toArray⟩ : Str)).map TL.tl = ys := by
                rw [List.map_map]
                have : (TL.tl ∘ fun y => (⟨y.toArray⟩ : Str)) = fun y => y := by
                  funext y
                  show (y.toArray).toList = y
                  rw [List.toList_toArray]
                rw [this, List.map_id']
              rw [e7] at e6
              have e8 : TL.tl (⟨sep.toArray⟩ : Str) = sep := List.toList_toArray
              rw [e8] at e6
              exact e6
            rw [e5]
            exact fin_here h2 s2 rfl
        · rw [if_neg hz] at h2
          exact h2.elim
  | _ => exact h1.elim
end
end Mx

set_option linter.all false
set_option maxRecDepth 100000
set_option maxHeartbeats 4000000
namespace Mx
open PySem PySem.Spec PyProof.Rows L2

/-! ### what is walked -/
inductive Src where
  | vals (xs : List Val) | live (n l : Nat)
def Src.size : Src → Nat
  | .vals xs => xs.length
  | .live _ l => l
def Src.item : Src → Sto → Nat → Option Val
  | .vals xs, _, i => xs[i]?
  | .live n l, S, i => match S[n]? with
    | some (.lst xs) => if xs.length = l then xs[i]? else none
    | none => none
def Src.fin : Src → Sto → Bool
  | .vals _, _ => true
  | .live n l, S => match S[n]? with
    | some (.lst xs) => xs.length == l
    | none => false
structure JR (K : PySem.W.Frag) (io : List Addr) (H : Hp) (src : Src) (J : It) : Prop where
  go : ∀ io' H' S i x, Le K io H io' H' → SR K io' H' S → src.item S i = some x → J.go i H' ∧ ∀ y H'', J.yld i H' y H'' → Le K io' H' io' H'' ∧ SR K io' H'' S ∧ VR K io' H'' x y
  stop : ∀ io' H' S, Le K io H io' H' → SR K io' H' S → src.fin S = true → J.stop src.size H'
structure PIm (X : Cx) (E : XK) (tg iter : Expr) (m : Ev → M Src) : Prop where
  ex : ∃ wi, PI X tg iter wi ∧ ∀ io σ H env S R, ER X.K io H env σ → SR X.K io H S → FinG X.K (JR X.K) E io H R (m env S) → wi σ H R
theorem PI.or {X : Cx} {tg iter : Expr} {w1 w2 : TI} (h1 : PI X tg iter w1) (h2 : PI X tg iter w2) : PI X tg iter (fun σ H R => w1 σ H R ∨ w2 σ H R) :=
  ⟨fun pins s σ H R I h => h.elim (h1.run pins s σ H R I) (h2.run pins s σ H R I)⟩
def srcOf : Val → M Src
  | .str z, S => .ok (.vals (z.map fun c => .str [c])) S
  | .tup xs, S => .ok (.vals xs) S
  | .loc n, S => match S[n]? with
    | some (.lst xs) => .ok (.live n xs.length) S
    | none => .bad
  | .kl xs, S => .ok (.vals xs) S
  | _, _ => .bad
def mSrc (a : Ev → M Val) : Ev → M Src := fun env S => (a env S).bind fun x S1 => srcOf x S1
def mSrcL (a : Ev → M (List Val)) : Ev → M Src := fun env S => (a env S).bind fun xs S1 => .ok (.vals xs) S1
section
variable {X : Cx} {E : XK} {a b c e tg : Expr} {es : List Expr} {ma mb mc : Ev → M Val} {pos p : Pos}
theorem jr_list {io : List Addr} {H : Hp} {q : Addr} {xs : List Val} {vs : List V} {src : Src} (hs : src.size = xs.length)
    (h : ∀ io' H' S i x, Le X.K io H io' H' → SR X.K io' H' S → src.item S i = some x → ∃ vs, SqL X.K H' q vs ∧ ∃ v, vs[i]? = some v ∧ VR X.K io' H' x v)
    (h2 : ∀ io' H' S, Le X.K io H io' H' → SR X.K io' H' S → src.fin S = true → ∃ vs, SqL X.K H' q vs ∧ vs.length = src.size) : JR X.K io H src (Itl X.K q) := by
  refine ⟨fun io' H' S i x l s e => ?_, fun io' H' S l s e => ?_⟩
  · obtain ⟨vs, hq, v, hv, r⟩ := h io' H' S i x l s e
    refine ⟨⟨vs, v, hq, hv⟩, fun y H'' hy => ?_⟩
    obtain ⟨e1, hy⟩ := hy
    subst e1
    have := hy vs hq
    rw [hv] at this
    cases this
    exact ⟨Le.refl, s, r⟩
  · obtain ⟨vs, hq, hl⟩ := h2 io' H' S l s e
    exact ⟨vs, hq, by rw [hl]; exact Nat.le_refl _⟩
theorem pim_val (ha : PEm X E a ma) : PIm X E tg a (mSrc ma) := by
  obtain ⟨ta, pa, qa⟩ := ha.ex
  refine ⟨_, PI.or (pi_list pa) (PI.or (pi_tup pa) (pi_str pa)), fun io σ H env S R er sr h => ?_⟩
  -- the value decides which of the three it is
  have kinds : (ma env S).bind (fun x S1 => srcOf x S1) = mSrc ma env S := rfl
  cases eo : ma env S with
  | bad => simp only [mSrc, eo, Out.bind] at h; exact h.elim
  | err x S1 => 
    simp only [mSrc, eo, Out.bind] at h
    refine .inl (qa io σ H env S _ er sr ?_)
    rw [eo]
    exact h
  | ok x S1 =>
    simp only [mSrc, eo, Out.bind] at h
    cases x with
    | str z =>
      refine .inr (.inr (qa io σ H env S _ er sr ?_))
      rw [eo]
      intro io1 H1 v l1 s1 r1
      cases (show v = .str _ from r1)
      refine ⟨_, rfl, h io1 H1 _ l1 s1 ⟨fun io' H' S i x l s e => ?_, fun io' H' S l s e => ?_⟩⟩
      · simp only [Src.item, List.getElem?_map] at e
        cases ez : z[i]? with
        | none => rw [ez] at e; cases e
        | some c =>
          rw [ez] at e
          cases e
          have hi := (List.getElem?_eq_some_iff.mp ez).1
          refine ⟨by show i < z.toArray.size; rw [List.size_toArray]; exact hi, fun y H'' hy => ?_⟩
          obtain ⟨e1, c', hc, e2⟩ := hy
          subst e1 e2
          have hc' : z[i]? = some c' := by rw [← List.getElem?_toArray]; exact hc
          rw [ez] at hc'
          cases hc'
          exact ⟨Le.refl, s, rfl⟩
      · show z.toArray.size ≤ (z.map _).length
        rw [List.size_toArray, List.length_map]
        exact Nat.le_refl _
    | tup xs =>
      refine .inr (.inl (qa io σ H env S _ er sr ?_))
      rw [eo]
      intro io1 H1 v l1 s1 r1
      obtain ⟨q, vs, rfl, hp, k⟩ := r1
      refine ⟨q, rfl, ⟨vs, hp⟩, h io1 H1 _ l1 s1 ⟨fun io' H' S i x l s e => ?_, fun io' H' S l s e => ?_⟩⟩
      · obtain ⟨v, hv, r⟩ := (VRs.mono l _ _ k).get (i := i) (x := x) e
        refine ⟨⟨vs, v, l.tu _ _ hp, hv⟩, fun y H'' hy => ?_⟩
        obtain ⟨e1, hy⟩ := hy
        subst e1
        have := hy vs (l.tu _ _ hp)
        rw [hv] at this
        cases this
        exact ⟨Le.refl, s, r⟩
      · exact ⟨vs, l.tu _ _ hp, by show vs.length ≤ xs.length; rw [k.length]; exact Nat.le_refl _⟩
    | loc n =>
      refine .inl (qa io σ H env S _ er sr ?_)
      rw [eo]
      intro io1 H1 v l1 s1 r1
      obtain ⟨q, hi, rfl⟩ := r1
      have core : ∀ (L : Nat), (∀ io' H' R', FinG X.K (JR X.K) E io H R (.ok (.live n L) S1) → Le X.K io H io' H' → SR X.K io' H' S1 → JR X.K io' H' (.live n L) R' → R R' H') := fun L io' H' R' h l s j => h io' H' R' l s j
      have jr : ∀ (L : Nat), JR X.K io1 H1 (.live n L) (Itl X.K q) := fun L => by
        refine ⟨fun io' H' S i x l s e => ?_, fun io' H' S l s e => ?_⟩
        · simp only [Src.item] at e
          cases es : S[n]? with
          | none => rw [es] at e; cases e
          | some o =>
            have w := s.is es (l.ia n q hi)
            rw [es] at e
            cases o with
            | lst ys =>
              obtain ⟨vs, hv, k⟩ := w
              by_cases hL : ys.length = L
              · simp only [if_pos hL] at e
                obtain ⟨v, hv2, r⟩ := k.get e
                refine ⟨⟨vs, v, SqL.of hv, hv2⟩, fun y H'' hy => ?_⟩
                obtain ⟨e1, hy⟩ := hy
                subst e1
                have := hy vs (SqL.of hv)
                rw [hv2] at this
                cases this
                exact ⟨Le.refl, s, r⟩
              · simp only [if_neg hL] at e
                cases e
        · simp only [Src.fin] at e
          cases es : S[n]? with
          | none => rw [es] at e; cases e
          | some o =>
            have w := s.is es (l.ia n q hi)
            rw [es] at e
            cases o with
            | lst ys =>
              obtain ⟨vs, hv, k⟩ := w
              exact ⟨vs, SqL.of hv, by rw [k.length, eq_of_beq e]; exact Nat.le_refl _⟩
      simp only [srcOf] at h
      cases es : S1[n]? with
      | none => simp only [es] at h; exact h.elim
      | some o =>
        have w := s1.is es hi
        simp only [es] at h
        cases o with
        | lst ys =>
          obtain ⟨vs, hv, k⟩ := w
          exact ⟨q, rfl, ⟨vs, SqL.of hv⟩, h io1 H1 _ l1 s1 (jr _)⟩
    | kl xs =>
      refine .inl (qa io σ H env S _ er sr ?_)
      rw [eo]
      intro io1 H1 v l1 s1 r1
      obtain ⟨q, vs, rfl, hp, k⟩ := r1
      refine ⟨q, rfl, ⟨vs, hp.sq⟩, h io1 H1 _ l1 s1 ⟨fun io' H' S i x l s e => ?_, fun io' H' S l s e => ?_⟩⟩
      · obtain ⟨v, hv, r⟩ := (VRs.mono l _ _ k).get (i := i) (x := x) e
        refine ⟨⟨vs, v, (l.fz _ _ hp).sq, hv⟩, fun y H'' hy => ?_⟩
        obtain ⟨e1, hy⟩ := hy
        subst e1
        have := hy vs (l.fz _ _ hp).sq
        rw [hv] at this
        cases this
        exact ⟨Le.refl, s, r⟩
      · exact ⟨vs, (l.fz _ _ hp).sq, by show vs.length ≤ xs.length; rw [k.length]; exact Nat.le_refl _⟩
    | _ => exact h.elim
theorem pim_l {ml : Ev → M (List Val)} (ha : PLm X E a ml) : PIm X E tg a (mSrcL ml) := by
  obtain ⟨ta, pa, qa⟩ := ha.ex
  refine ⟨_, pi_list pa, fun io σ H env S R er sr h => ?_⟩
  refine qa io σ H env S _ er sr (fin_bind h fun xs S1 io1 H1 v _ l1 s1 r1 h1 => ?_)
  obtain ⟨q, vs, rfl, hv, hb, hi, k⟩ := r1
  refine ⟨q, rfl, ⟨vs, SqL.of hv⟩, h1 io1 H1 _ Le.refl s1 ⟨fun io' H' S i x l s e => ?_, fun io' H' S l s e => ?_⟩⟩
  · obtain ⟨v, hv2, r⟩ := (VRs.mono l _ _ k).get (i := i) (x := x) e
    have hq : SqL X.K H' q vs := SqL.of (l.fr q _ hv hi).1
    refine ⟨⟨vs, v, hq, hv2⟩, fun y H'' hy => ?_⟩
    obtain ⟨e1, hy⟩ := hy
    subst e1
    have := hy vs hq
    rw [hv2] at this
    cases this
    exact ⟨Le.refl, s, r⟩
  · exact ⟨vs, SqL.of (l.fr q _ hv hi).1, by show vs.length ≤ xs.length; rw [k.length]; exact Nat.le_refl _⟩
/-- the whole numbers from lo on, n of them -/
def upTo (lo : Int) (n : Nat) : List Val := (List.range n).map fun i => .int (lo + ((i : Nat) : Int))
theorem jr_range {io : List Addr} {H : Hp} (lo : Int) (n : Nat) : JR X.K io H (.vals (upTo lo n)) (Itr lo n) := by
  refine ⟨fun io' H' S i x l s e => ?_, fun io' H' S l s e => ?_⟩
  · simp only [Src.item, upTo, List.getElem?_map] at e
    by_cases hi : i < n
    · rw [List.getElem?_range hi] at e
      cases e
      refine ⟨hi, fun y H'' hy => ?_⟩
      obtain ⟨e1, e2⟩ := hy
      subst e1 e2
      exact ⟨Le.refl, s, rfl⟩
    · rw [List.getElem?_eq_none (by rw [List.length_range]; omega)] at e
      cases e
  · show n ≤ (upTo lo n).length
    unfold upTo
    rw [List.length_map, List.length_range]
    exact Nat.le_refl _
def mRng1 (m : Ev → M Val) : Ev → M Src := fun env S => (m env S).bind fun x S1 => match x with
  | .int j => if j.natAbs ≤ lim then .ok (.vals (upTo 0 j.toNat)) S1 else .bad
  | _ => .bad
def mRng2 (m m' : Ev → M Val) : Ev → M Src := fun env S => (m env S).bind fun x S1 => (m' env S1).bind fun y S2 => match x, y with
  | .int i, .int j => if i.natAbs ≤ lim ∧ j.natAbs ≤ lim then .ok (.vals (upTo i (j - i).toNat)) S2 else .bad
  | _, _ => .bad
theorem pim_range1 (hm : X.mg "range" = none) (ha : PEm X E a ma) (hg : Gl X "range" := by rfl) (hs : starEach [a] X.env = [(false, eval a X.env)] := by rfl) : PIm X E tg (.Call (.Name "range" p) [a] [] pos) (mRng1 ma) := by
  obtain ⟨ta, pa, qa⟩ := ha.ex
  refine ⟨_, pi_range1 hg hm (pa_cons pa pa_nil hs) hs, fun io σ H env S R er sr h => ?_⟩
  refine qa io σ H env S _ er sr (fin_bind h fun x S1 io1 H1 v _ l1 s1 r1 h1 => ?_)
  cases x with
  | int j =>
    cases (show v = .int j from r1)
    by_cases hj : j.natAbs ≤ lim
    · simp only [if_pos hj] at h1
      have : lim = 100000 := rfl
      exact ⟨j, rfl, by omega, by omega, h1 io1 H1 _ Le.refl s1 (jr_range 0 j.toNat)⟩
    · simp only [if_neg hj] at h1
      exact h1.elim
  | _ => exact h1.elim
theorem pim_range2 (hm : X.mg "range" = none) (ha : PEm X E a ma) (hb : PEm X E b mb) (hg : Gl X "range" := by rfl) (hs : starEach [a, b] X.env = [(false, eval a X.env), (false, eval b X.env)] := by rfl) (hs2 : starEach [b] X.env = [(false, eval b X.env)] := by rfl) :
    PIm X E tg (.Call (.Name "range" p) [a, b] [] pos) (mRng2 ma mb) := by
  obtain ⟨ta, pa, qa⟩ := ha.ex
  obtain ⟨tb, pb, qb⟩ := hb.ex
  refine ⟨_, pi_range2 hg hm (pa_cons pa (pa_cons pb pa_nil hs2) (by rw [hs, hs2])) hs hs2, fun io σ H env S R er sr h => ?_⟩
  refine qa io σ H env S _ er sr (fin_bind h fun x S1 io1 H1 v _ l1 s1 r1 h1 => ?_)
  refine qb io1 σ H1 env S1 _ (er.mono l1) s1 (fin_bind h1 fun y S2 io2 H2 w _ l2 s2 r2 h2 => ?_)
  cases x with
  | int i =>
    cases y with
    | int j =>
      cases (show v = .int i from r1)
      cases (show w = .int j from r2)
      by_cases hj : i.natAbs ≤ lim ∧ j.natAbs ≤ lim
      · simp only [if_pos hj] at h2
        have : lim = 100000 := rfl
        exact ⟨i, j, rfl, by omega, h2 io2 H2 _ Le.refl s2 (jr_range i (j - i).toNat)⟩
      · simp only [if_neg hj] at h2
        exact h2.elim
    | _ => exact h2.elim
  | _ => exact h2.elim
end
end Mx

set_option linter.all false
set_option maxRecDepth 100000
set_option maxHeartbeats 4000000
namespace Mx
open PySem PySem.Spec PyProof.Rows L2

/-! ### readings of their own: what a denotation asks -/
def tE (K : PySem.W.Frag) (E : XK) (m : Ev → M Val) : TE := fun σ H Q => ∃ io env S, ER K io H env σ ∧ SR K io H S ∧ FinG K (VR K) E io H Q (m env S)
def tT (K : PySem.W.Frag) (E : XK) (m : Ev → M Bool) : TT := fun σ H Q => ∃ io env S, ER K io H env σ ∧ SR K io H S ∧ FinG K RB E io H Q (m env S)
section
variable {X : Cx} {E : XK} {e : Expr}
theorem PEm.pe {m : Ev → M Val} (h : PEm X E e m) : PE X e (tE X.K E m) := by
  obtain ⟨t, p, q⟩ := h.ex
  exact ⟨fun pins s σ H Q I ⟨io, env, S, er, sr, hq⟩ => p.run pins s σ H Q I (q io σ H env S Q er sr hq)⟩
theorem PTm.pt {m : Ev → M Bool} (h : PTm X E e m) : PT X e (tT X.K E m) := by
  obtain ⟨t, p, q⟩ := h.ex
  exact ⟨fun pins s σ H Q I ⟨io, env, S, er, sr, hq⟩ => p.run pins s σ H Q I (q io σ H env S Q er sr hq)⟩
end

/-! ### targets: names, and tuples of such -/
inductive Tg where
  | name (j : Nat) | tup (ts : List Tg)
mutual
def tgT (K : PySem.W.Frag) : Tg → TG
  | .name j => gName j
  | .tup ts => L2.gTup K (tgN ts) (tgTs K ts)
def tgTs (K : PySem.W.Frag) : List Tg → TGs
  | [] => gNil
  | t :: ts => gCons (tgT K t) (tgTs K ts)
def tgN : List Tg → Nat
  | [] => 0
  | _ :: ts => tgN ts + 1
end
mutual
def tgM : Tg → Val → Ev → Option Ev
  | .name j, x, env => some (env.set j (some x))
  | .tup ts, .tup xs, env => tgMs ts xs env
  | .tup _, _, _ => none
def tgMs : List Tg → List Val → Ev → Option Ev
  | [], [], env => some env
  | t :: ts, x :: xs, env => (tgM t x env).bind fun env2 => tgMs ts xs env2
  | [], _ :: _, _ => none
  | _ :: _, [], _ => none
end
mutual
def tgS : Tg → List Nat
  | .name j => [j]
  | .tup ts => tgSs ts
def tgSs : List Tg → List Nat
  | [] => []
  | t :: ts => tgS t ++ tgSs ts
end
theorem wipe_get (σ : L2.St) (i : Nat) : ∀ vs : List Nat, (wipe σ vs)[i]? = if i ∈ vs then σ[i]?.map (fun _ => none) else σ[i]?
  | [] => by rw [if_neg (by simp)]; rfl
  | v :: vs => by
    show ((wipe σ vs).set v none)[i]? = _
    have ih := wipe_get σ i vs
    by_cases h : v = i
    · subst h
      rw [if_pos List.mem_cons_self, List.getElem?_set]
      rw [if_pos rfl]
      have hl : (wipe σ vs).length = σ.length := wipe_length σ vs
      by_cases hv : v < σ.length
      · rw [if_pos (by rw [hl]; exact hv), List.getElem?_eq_getElem hv]; rfl
      · rw [if_neg (by rw [hl]; exact hv), List.getElem?_eq_none (by omega)]; rfl
    · rw [List.getElem?_set_ne h, ih]
      by_cases h2 : i ∈ vs
      · rw [if_pos h2, if_pos (List.mem_cons_of_mem _ h2)]
      · rw [if_neg h2, if_neg (fun z => (List.mem_cons.mp z).elim (fun q => h q.symm) h2)]
theorem wipe_set {σ : L2.St} {j : Nat} {x : Option V} {vs : List Nat} (h : j ∈ vs) : wipe (σ.set j x) vs = wipe σ vs := by
  refine List.ext_getElem? fun i => ?_
  rw [wipe_get, wipe_get]
  by_cases hi : i ∈ vs
  · rw [if_pos hi, if_pos hi]
    by_cases e : j = i
    · subst e
      rw [List.getElem?_set]
      rw [if_pos rfl]
      by_cases hl : j < σ.length
      · rw [if_pos hl, List.getElem?_eq_getElem hl]; rfl
      · rw [if_neg hl, List.getElem?_eq_none (by omega)]
    · rw [List.getElem?_set_ne e]
  · rw [if_neg hi, if_neg hi, List.getElem?_set_ne (fun e => hi (by rw [← e]; exact h))]
theorem wipe_wipe (σ : L2.St) (vs : List Nat) : wipe (wipe σ vs) vs = wipe σ vs := by
  refine List.ext_getElem? fun i => ?_
  rw [wipe_get, wipe_get]
  by_cases hi : i ∈ vs
  · rw [if_pos hi, if_pos hi, Option.map_map]
    rfl
  · rw [if_neg hi, if_neg hi]
section
variable {K : PySem.W.Frag} {io : List Addr} {H : Hp}
theorem er_wip {env : Ev} {σ : L2.St} (er : ER K io H env σ) : ∀ vs : List Nat, ER K io H (wip env vs) (wipe σ vs)
  | [] => er
  | v :: vs => by
    have ih := er_wip er vs
    show ER K io H ((wip env vs).set v none) ((wipe σ vs).set v none)
    refine ⟨by rw [List.length_set, List.length_set]; exact ih.len, fun i x e => ?_⟩
    by_cases h : v = i
    · subst h
      have hl := (List.getElem?_eq_some_iff.mp e).1
      rw [List.length_set] at hl
      rw [List.getElem?_set_self hl] at e
      cases e
    · rw [List.getElem?_set_ne h] at e
      obtain ⟨w, e2, r⟩ := ih.get i x e
      exact ⟨w, by rw [List.getElem?_set_ne h]; exact e2, r⟩
theorem tgN_len : ∀ ts : List Tg, tgN ts = ts.length
  | [] => rfl
  | t :: ts => by rw [tgN, tgN_len ts]; rfl
theorem tgMs_len : ∀ (ts : List Tg) (xs : List Val) (env env' : Ev), tgMs ts xs env = some env' → xs.length = tgN ts
  | [], [], _, _, _ => rfl
  | [], _ :: _, _, _, h => by simp [tgMs] at h
  | _ :: _, [], _, _, h => by simp [tgMs] at h
  | t :: ts, x :: xs, env, env', h => by
    simp only [tgMs] at h
    cases e : tgM t x env with
    | none => rw [e] at h; cases h
    | some env2 =>
      rw [e] at h
      rw [List.length_cons, tgMs_len ts xs env2 env' h]
      rfl
mutual
theorem tg_ok : ∀ (tg : Tg) (x : Val) (v : V) (env env' : Ev) (σ : L2.St) (Q : L2.St → Hp → Prop), ER K io H env σ → VR K io H x v → tgM tg x env = some env' →
    (∀ σ', ER K io H env' σ' → (∀ vs, (∀ j ∈ tgS tg, j ∈ vs) → wipe σ' vs = wipe σ vs) → Q σ' H) → tgT K tg v σ H Q
  | .name j, x, v, env, env', σ, Q, er, r, h, k => by
    cases h
    exact k _ (er.set j r) fun vs hv => wipe_set (hv j (by simp [tgS]))
  | .tup ts, .tup xs, v, env, env', σ, Q, er, r, h, k => by
    obtain ⟨a, vs, rfl, hs, rs⟩ := r
    have h' : tgMs ts xs env = some env' := h
    exact ⟨a, vs, rfl, hs, by rw [rs.length, tgMs_len ts xs env env' h'], tgs_ok ts xs vs env env' σ Q er rs h' k⟩
  | .tup _, .non, _, _, _, _, _, _, _, h, _ => by simp [tgM] at h
  | .tup _, .bl _, _, _, _, _, _, _, _, h, _ => by simp [tgM] at h
  | .tup _, .int _, _, _, _, _, _, _, _, h, _ => by simp [tgM] at h
  | .tup _, .str _, _, _, _, _, _, _, _, h, _ => by simp [tgM] at h
  | .tup _, .loc _, _, _, _, _, _, _, _, h, _ => by simp [tgM] at h
  | .tup _, .kl _, _, _, _, _, _, _, _, h, _ => by simp [tgM] at h
  | .tup _, .ext _, _, _, _, _, _, _, _, h, _ => by simp [tgM] at h
theorem tgs_ok : ∀ (ts : List Tg) (xs : List Val) (vs : List V) (env env' : Ev) (σ : L2.St) (Q : L2.St → Hp → Prop), ER K io H env σ → VRs K io H xs vs → tgMs ts xs env = some env' →
    (∀ σ', ER K io H env' σ' → (∀ vs, (∀ j ∈ tgSs ts, j ∈ vs) → wipe σ' vs = wipe σ vs) → Q σ' H) → tgTs K ts vs σ H Q
  | [], [], vs, env, env', σ, Q, er, r, h, k => by
    cases r
    simp only [tgMs] at h
    cases h
    exact ⟨rfl, k σ er fun _ _ => rfl⟩
  | [], _ :: _, _, _, _, _, _, _, _, h, _ => by simp [tgMs] at h
  | _ :: _, [], _, _, _, _, _, _, _, h, _ => by simp [tgMs] at h
  | t :: ts, x :: xs, _, env, env', σ, Q, er, ⟨v, ws, e, r, rs⟩, h, k => by
    subst e
    simp only [tgMs] at h
    cases e : tgM t x env with
    | none => rw [e] at h; cases h
    | some env2 =>
      rw [e] at h
      refine ⟨v, ws, rfl, tg_ok t x v env env2 σ _ er r e fun σ2 er2 w2 => ?_⟩
      refine tgs_ok ts xs ws env2 env' σ2 Q er2 rs h fun σ3 er3 w3 => k σ3 er3 fun vs hv => ?_
      rw [w3 vs fun j hj => hv j (by simp only [tgSs]; exact List.mem_append_right _ hj), w2 vs fun j hj => hv j (by simp only [tgSs]; exact List.mem_append_left _ hj)]
end
end
/-- the target's rule, by its form -/
structure PGt (X : Cx) (e : Expr) (tg : Tg) : Prop where
  pg : PG X e (tgT X.K tg)
structure PGts (X : Cx) (es : List Expr) (ts : List Tg) : Prop where
  pg : PGs X es (tgTs X.K ts)
section
variable {X : Cx} {E : XK} {e : Expr} {es : List Expr} {pos : Pos}
theorem pgt_name {j : Nat} {x : Str} (hN : X.N.Nodup) (hi : X.N[j]? = some x := by rfl) (hx : Loc X.env.scope x := by first | exact Or.inl rfl | exact Or.inr rfl) (hf : X.fn x = true ∨ X.env.scope.names.lookup x = some .local := by first | exact .inl rfl | exact .inr rfl) : PGt X (.Name x pos) (.name j) :=
  ⟨pg_name hN hi hx hf⟩
theorem pgts_nil : PGts X [] [] := ⟨pgs_nil⟩
theorem pgts_cons {t : Tg} {ts : List Tg} (h1 : PGt X e t) (h2 : PGts X es ts) (ha : (assignEach (e :: es) X.env).map (·.2) = assign e X.env :: (assignEach es X.env).map (·.2) := by rfl) : PGts X (e :: es) (t :: ts) :=
  ⟨pgs_cons h1.pg h2.pg ha⟩
theorem pgt_tup {ts : List Tg} {k : Nat} (hc : X.calm = true) (h : PGts X es ts) (hn : (assignEach es X.env).length = tgN ts := by rfl) (hst : (assignEach es X.env).findIdx? (·.1) = none := by rfl) : PGt X (.Tuple es k pos) (.tup ts) :=
  ⟨pg_tup hc h.pg hn hst⟩
end

/-! ### [e for target in iter if test] -/
theorem VR.up {K : PySem.W.Frag} {io : List Addr} {H H' : Hp} (t : ∀ (a : Addr) (xs : List V), SqT K H a xs → SqT K H' a xs) (t2 : ∀ (a : Addr) (xs : List V), SqF K H a xs → SqF K H' a xs) : (∀ (x : Val) (v : V), VR K io H x v → VR K io H' x v) ∧ ∀ (xs : List Val) (vs : List V), VRs K io H xs vs → VRs K io H' xs vs := by
  -- the heap's other objects may change as they like
  have both : ∀ n : Nat, (∀ (x : Val) (v : V), sizeOf x ≤ n → VR K io H x v → VR K io H' x v) ∧ ∀ (xs : List Val) (vs : List V), sizeOf xs ≤ n → VRs K io H xs vs → VRs K io H' xs vs := by
    intro n
    induction n with
    | zero => exact ⟨fun x v hs _ => by cases x <;> simp at hs, fun xs v hs _ => by cases xs <;> simp at hs⟩
    | succ n ih =>
      refine ⟨fun x v hs h => ?_, fun xs vs hs h => ?_⟩
      · cases x with
        | tup xs =>
          obtain ⟨a, vs, e, hp, k⟩ := h
          exact ⟨a, vs, e, t a vs hp, ih.2 xs vs (by simp at hs; omega) k⟩
        | kl xs =>
          obtain ⟨a, vs, e, hp, k⟩ := h
          exact ⟨a, vs, e, t2 a vs hp, ih.2 xs vs (by simp at hs; omega) k⟩
        | _ => exact h
      · cases xs with
        | nil => exact h
        | cons x xs =>
          obtain ⟨v, ws, e, h1, h2⟩ := h
          exact ⟨v, ws, e, ih.1 x v (by simp at hs; omega) h1, ih.2 xs ws (by simp at hs; omega) h2⟩
  exact ⟨fun x v => (both _).1 x v (Nat.le_refl _), fun xs vs => (both _).2 xs vs (Nat.le_refl _)⟩
theorem acc_tu {K : PySem.W.Frag} {H : Hp} {D : Addr} {ws us : List V} (hD : H D = some (.lst ws)) : ∀ (a : Addr) (xs : List V), SqT K H a xs → SqT K (upd H D (.lst us)) a xs := fun a xs h => by
  rcases h with h | h
  · exact .inl (rd_mut hD h)
  · exact .inr h
theorem acc_fz {K : PySem.W.Frag} {H : Hp} {D : Addr} {ws us : List V} (hD : H D = some (.lst ws)) : ∀ (a : Addr) (xs : List V), SqF K H a xs → SqF K (upd H D (.lst us)) a xs := fun a xs h => fz_mut hD h
theorem SR.acc {K : PySem.W.Frag} {io : List Addr} {H : Hp} {S : Sto} {D : Addr} {ws us : List V} (s : SR K io H S) (hD : H D = some (.lst ws)) (hi : D ∉ io) : SR K io (L2.upd H D (.lst us)) S := by
  refine ⟨s.len, s.inj, fun n a o h1 h2 => ?_⟩
  have na : a ≠ D := fun e => hi (by rw [← e]; exact List.mem_of_getElem? h1)
  have q := s.obj n a o h1 h2
  cases o with
  | lst xs => obtain ⟨vs, e, k⟩ := q; exact ⟨vs, by rw [upd_ne na]; exact e, (VR.up (acc_tu hD) (acc_fz hD)).2 _ _ k⟩
theorem Le.acc {K : PySem.W.Frag} {io0 io : List Addr} {B H : Hp} {D : Addr} {ws us : List V} (l : Le K io0 B io H) (hD : H D = some (.lst ws)) (hB : B D = none) : Le K io0 B io (L2.upd H D (.lst us)) :=
  ⟨l.ia, fun a xs h => acc_tu hD a xs (l.tu a xs h), fun a xs h => acc_fz hD a xs (l.fz a xs h), fun a o h k => ⟨by rw [upd_ne (ne_of_none h hB)]; exact (l.fr a o h k).1, (l.fr a o h k).2⟩⟩

def compI (src : Src) (tg : Tg) (t : Ev → M Bool) (e : Ev → M Val) (env0 : Ev) : Nat → Nat → List Val → M (List Val)
  | 0, _, acc, S => if src.fin S = true then .ok acc S else .bad
  | r + 1, i, acc, S => match src.item S i with
    | none => .bad
    | some x => match tgM tg x env0 with
      | none => .bad
      | some env2 => (t env2 S).bind fun b S2 => if b = true then (e env2 S2).bind fun y S3 => if acc.length < lim then compI src tg t e env0 r (i + 1) (acc ++ [y]) S3 else .bad
        else compI src tg t e env0 r (i + 1) acc S2
def mLc (ms : Ev → M Src) (tg : Tg) (t : Ev → M Bool) (e : Ev → M Val) (vs : List Nat) : Ev → M (List Val) := fun env S => (ms env S).bind fun src S1 => compI src tg t e (wip env vs) src.size 0 [] S1
def mYes : Ev → M Bool := fun _ S => .ok true S
section
variable {K : PySem.W.Frag} {E : XK}
theorem lc_run {wi : TI} {ms : Ev → M Src} {tg : Tg} {mt : Ev → M Bool} {me : Ev → M Val} {vs : List Nat} (hv : ∀ j ∈ tgS tg, j ∈ vs)
    (qw : ∀ io σ H env S R, ER K io H env σ → SR K io H S → FinG K (JR K) E io H R (ms env S) → wi σ H R) {io : List Addr} {σ : L2.St} {B : Hp} {env : Ev} {S : Sto} {Q : VK} (er : ER K io B env σ) (sr : SR K io B S)
    (h : FinG K (RL K B) E io B Q (mLc ms tg mt me vs env S)) : tLc wi (tgT K tg) (tT K E mt) (tE K E me) vs σ B Q := by
  refine qw io σ B env S _ er sr (fin_bind h fun src S1 io1 H1 J eo l1 s1 jr _ => ?_)
  intro D hD
  have hB : B D = none := (fresh l1 s1 hD).1
  have hDi : D ∉ io1 := (fresh l1 s1 hD).2
  have base : FinG K (RL K B) E io1 H1 Q (compI src tg mt me (wip env vs) src.size 0 [] S1) := by
    have h2 := h
    unfold mLc at h2
    rw [eo] at h2
    exact FinG.mono l1 h2
  have er1 : ER K io1 H1 (wip env vs) (wipe σ vs) := er_wip (er.mono l1) vs
  refine ⟨fun i m H => ∃ io2 S2 acc ws, i + m = src.size ∧ Le K io1 H1 io2 H ∧ SR K io2 H S2 ∧ H D = some (.lst ws) ∧ D ∉ io2 ∧ VRs K io2 H acc ws ∧ FinG K (RL K B) E io1 H1 Q (compI src tg mt me (wip env vs) m i acc S2),
    ⟨src.size, io1, S1, [], [], Nat.zero_add _, Le.new hD, s1.new hD, upd_same, hDi, rfl, base⟩, ?_⟩
  rintro i m H ⟨io2, S2, acc, ws, hsz, l2, s2, hDv, hDn, k, hf⟩
  cases m with
  | zero =>
    left
    have ei : i = src.size := by omega
    subst ei
    simp only [compI] at hf
    by_cases hfin : src.fin S2 = true
    · rw [if_pos hfin] at hf
      exact ⟨jr.stop io2 H S2 l2 s2 hfin, fin_ok hf l2 s2 ⟨D, ws, rfl, hDv, hB, hDn, k⟩⟩
    · rw [if_neg hfin] at hf
      exact hf.elim
  | succ m =>
    right
    simp only [compI] at hf
    cases ex : src.item S2 i with
    | none => simp only [ex] at hf; exact hf.elim
    | some x =>
      simp only [ex] at hf
      cases eg : tgM tg x (wip env vs) with
      | none => simp only [eg] at hf; exact hf.elim
      | some env2 =>
        simp only [eg] at hf
        obtain ⟨jg, jy⟩ := jr.go io2 H S2 i x l2 s2 ex
        refine ⟨jg, fun H' => ∃ io2 S2 acc ws, i + 1 + m = src.size ∧ Le K io1 H1 io2 H' ∧ SR K io2 H' S2 ∧ H' D = some (.lst ws) ∧ D ∉ io2 ∧ VRs K io2 H' acc ws ∧ FinG K (RL K B) E io1 H1 Q (compI src tg mt me (wip env vs) m (i + 1) acc S2),
          fun H' w => ⟨m, Nat.lt_succ_self m, w⟩, fun y H' hy => ?_⟩
        obtain ⟨l3, s3, rx⟩ := jy y H' hy
        have hD3 := l3.fr D _ hDv hDn
        refine tg_ok tg x y _ env2 _ _ ((er1.mono l2).mono l3) rx eg fun σ2 er2 wp => ?_
        refine ⟨by rw [wp vs hv, wipe_wipe], ?_⟩
        have l23 := l2.trans l3
        refine ⟨io2, env2, S2, er2, s3, fin_bind (FinG.mono l23 hf) fun b S4 io4 H4 b' et l4 s4 r4 _ => ?_⟩
        cases (show b = b' from r4)
        have hD4 := l4.fr D _ hD3.1 hD3.2
        rw [et] at hf
        have hf : FinG K (RL K B) E io1 H1 Q (if b = true then (me env2 S4).bind fun y S3 => if acc.length < lim then compI src tg mt me (wip env vs) m (i + 1) (acc ++ [y]) S3 else .bad else compI src tg mt me (wip env vs) m (i + 1) acc S4) := hf
        have l24 := l23.trans l4
        cases b with
        | false =>
          rw [if_neg Bool.false_ne_true] at hf ⊢
          exact ⟨io4, S4, acc, ws, by omega, l24, s4, hD4.1, hD4.2, VRs.mono l4 _ _ (VRs.mono l3 _ _ k), hf⟩
        | true =>
          rw [if_pos rfl] at hf ⊢
          refine ⟨io4, env2, S4, er2.mono l4, s4, fin_bind (FinG.mono l24 hf) fun y5 S5 io5 H5 v5 ee l5 s5 r5 _ => ?_⟩
          have hD5 := l5.fr D _ hD4.1 hD4.2
          rw [ee] at hf
          have hf : FinG K (RL K B) E io1 H1 Q (if acc.length < lim then compI src tg mt me (wip env vs) m (i + 1) (acc ++ [y5]) S5 else .bad) := hf
          by_cases hl : acc.length < lim
          · rw [if_pos hl] at hf
            have k5 := VRs.mono l5 _ _ (VRs.mono l4 _ _ (VRs.mono l3 _ _ k))
            refine ⟨ws, hD5.1, by rw [k.length]; exact lim_lt hl, io5, S5, acc ++ [y5], ws ++ [v5], by omega, (l24.trans l5).acc hD5.1 (fresh Le.refl s1 hD).1, s5.acc hD5.1 hD5.2, upd_same, hD5.2, ?_, hf⟩
            exact (VR.up (acc_tu hD5.1) (acc_fz hD5.1)).2 _ _ (k5.app (VRs.one r5))
          · rw [if_neg hl] at hf
            exact hf.elim
end
structure PTsm (X : Cx) (E : XK) (ifs : List Expr) (m : Ev → M Bool) : Prop where
  pt : PTs X ifs (tT X.K E m)
section
variable {X : Cx} {E : XK}
theorem ptsm_nil : PTsm X E [] mYes := ⟨⟨fun pins s σ H Q I ⟨io, env, S, er, sr, h⟩ => pts_nil.run pins s σ H Q I (fin_here h sr rfl)⟩⟩
theorem ptsm_one {c : Expr} {m : Ev → M Bool} (h : PTm X E c m) : PTsm X E [c] m := ⟨pts_one h.pt⟩
theorem plm_lc {N : List Str} {sc : Scope} {elt tg iter : Expr} {ifs : List Expr} {scope : Scope} {own : List (Str × Nat)} {pos : Pos} {ms : Ev → M Src} {t : Tg} {mt : Ev → M Bool} {me : Ev → M Val} (hc : X.calm = true) (hN : X.N.Nodup) (hi : PIm X E tg iter ms) (ok : blkC N sc scope own = true) (eN : X.N = N) (eS : X.env.scope = sc)
    (hg : ∀ (s : Shared) (H : Hp) (C : Addr) (cl : List (Str × Addr)) (fp : List Addr), PGt (X.blk s H scope (compEnvC scope cl C X.env) fp) tg t) (ht : ∀ (s : Shared) (H : Hp) (C : Addr) (cl : List (Str × Addr)) (fp : List Addr), PTsm (X.blk s H scope (compEnvC scope cl C X.env) fp) E ifs mt)
    (he : ∀ (s : Shared) (H : Hp) (C : Addr) (cl : List (Str × Addr)) (fp : List Addr), PEm (X.blk s H scope (compEnvC scope cl C X.env) fp) E elt me) (hv : ∀ j ∈ tgS t, j ∈ own.map (·.2)) (hs : ∀ x, foldedSetIterable iter X.env x = pure x := by intro _; rfl) :
    PLm X E (.ListComp elt [⟨tg, iter, ifs, 0⟩] scope pos) (mLc ms t mt me (own.map (·.2))) := by
  obtain ⟨wi, pi, qi⟩ := hi.ex
  exact ⟨_, pe_lc hc hN pi (blkOk_by (by rw [eN, eS]; exact ok)) (fun s H C cl fp => (hg s H C cl fp).pg) (fun s H C cl fp => (ht s H C cl fp).pt) (fun s H C cl fp => (he s H C cl fp).pe) hs, fun io σ H env S Q er sr h => lc_run hv qi er sr h⟩
end
end Mx

set_option linter.all false
set_option maxRecDepth 100000
set_option maxHeartbeats 4000000
namespace Mx
open PySem PySem.Spec PyProof.Rows L2

/-! ### statements -/
inductive Fl where
  | nx | rt (x : Val) | bk | ct
abbrev SM := Ev → M (Fl × Ev)
def FinS (K : PySem.W.Frag) (E : XK) (io : List Addr) (H : Hp) (D : Ends) : Out (Fl × Ev) → Prop
  | .ok (.nx, env) S => ∀ io' H' σ', Le K io H io' H' → SR K io' H' S → ER K io' H' env σ' → D.nx σ' H'
  | .ok (.rt x, _) S => ∀ io' H' v, Le K io H io' H' → SR K io' H' S → VR K io' H' x v → D.rt v H'
  | .ok (.bk, env) S => ∀ io' H' σ', Le K io H io' H' → SR K io' H' S → ER K io' H' env σ' → D.bk σ' H'
  | .ok (.ct, env) S => ∀ io' H' σ', Le K io H io' H' → SR K io' H' S → ER K io' H' env σ' → D.ct σ' H'
  | .err x S => ∀ io' H' c d, Le K io H io' H' → SR K io' H' S → XR K io' H' x c d → E c d H'
  | .bad => False
section
variable {α β : Type} {K : PySem.W.Frag} {R : List Addr → Hp → α → β → Prop} {E : XK} {io io' : List Addr} {H H' : Hp} {D : Ends} {Q : β → Hp → Prop}
theorem FinS.mono {o : Out (Fl × Ev)} (l : Le K io H io' H') (h : FinS K E io H D o) : FinS K E io' H' D o := by
  cases o with
  | ok x S =>
    obtain ⟨f, env⟩ := x
    cases f with
    | nx => exact fun io2 H2 v l2 => h io2 H2 v (l.trans l2)
    | rt x => exact fun io2 H2 v l2 => h io2 H2 v (l.trans l2)
    | bk => exact fun io2 H2 v l2 => h io2 H2 v (l.trans l2)
    | ct => exact fun io2 H2 v l2 => h io2 H2 v (l.trans l2)
  | err x S => exact fun io2 H2 c d l2 => h io2 H2 c d (l.trans l2)
  | bad => exact h
theorem fis_bind {o : Out α} {f : α → M (Fl × Ev)} (h : FinS K E io H D (o.bind f))
    (k : ∀ x S io1 H1 v, o = .ok x S → Le K io H io1 H1 → SR K io1 H1 S → R io1 H1 x v → FinS K E io1 H1 D (f x S) → Q v H1) : FinG K R E io H Q o := by
  cases o with
  | ok x S => exact fun io1 H1 v l s r => k x S io1 H1 v rfl l s r (FinS.mono l h)
  | err x S => exact h
  | bad => exact h
/-- another wish behind the end -/
theorem FinS.seq {o : Out (Fl × Ev)} {f : Ev → M (Fl × Ev)} {D' : Ends}
    (h : FinS K E io H D (o.bind fun r S => match r with | (.nx, env) => f env S | q => .ok q S)) (hr : D'.rt = D.rt) (hb : D'.bk = D.bk) (hc : D'.ct = D.ct)
    (k : ∀ env S io1 H1 σ, o = .ok (.nx, env) S → Le K io H io1 H1 → SR K io1 H1 S → ER K io1 H1 env σ → FinS K E io1 H1 D (f env S) → D'.nx σ H1) : FinS K E io H D' o := by
  cases o with
  | ok x S =>
    obtain ⟨fl, env⟩ := x
    cases fl with
    | nx => exact fun io1 H1 σ l s r => k env S io1 H1 σ rfl l s r (FinS.mono l h)
    | rt x => exact fun io1 H1 v l s r => by rw [hr]; exact h io1 H1 v l s r
    | bk => exact fun io1 H1 v l s r => by rw [hb]; exact h io1 H1 v l s r
    | ct => exact fun io1 H1 v l s r => by rw [hc]; exact h io1 H1 v l s r
  | err x S => exact h
  | bad => exact h
end
structure PSm (X : Cx) (E : XK) (st : Stmt) (m : SM) : Prop where
  ex : ∃ t, PS X st t ∧ ∀ io σ H env S D, ER X.K io H env σ → SR X.K io H S → FinS X.K E io H D (m env S) → t D σ H
structure PSsm (X : Cx) (E : XK) (sts : List Stmt) (m : SM) : Prop where
  ex : ∃ t, PSs X sts t ∧ ∀ io σ H env S D, ER X.K io H env σ → SR X.K io H S → FinS X.K E io H D (m env S) → t D σ H
def tS (K : PySem.W.Frag) (E : XK) (m : SM) : TS := fun D σ H => ∃ io env S, ER K io H env σ ∧ SR K io H S ∧ FinS K E io H D (m env S)

def sNx : SM := fun env S => .ok (.nx, env) S
def sBk : SM := fun env S => .ok (.bk, env) S
def sCt : SM := fun env S => .ok (.ct, env) S
def sSeq (a b : SM) : SM := fun env S => (a env S).bind fun r S1 => match r with | (.nx, env1) => b env1 S1 | q => .ok q S1
def sExp (e : Ev → M Val) : SM := fun env S => (e env S).bind fun _ S1 => .ok (.nx, env) S1
def sRet (e : Ev → M Val) : SM := fun env S => (e env S).bind fun x S1 => .ok (.rt x, env) S1
def sRetN : SM := fun env S => .ok (.rt .non, env) S
def sIf (t : Ev → M Bool) (a b : SM) : SM := fun env S => (t env S).bind fun c S1 => if c = true then a env S1 else b env S1
def sAsg (t : Tg) (e : Ev → M Val) : SM := fun env S => (e env S).bind fun x S1 => match tgM t x env with | some env1 => .ok (.nx, env1) S1 | none => .bad
def forI (src : Src) (tg : Tg) (b : SM) : Nat → Nat → SM
  | 0, _, env, S => if src.fin S = true then .ok (.nx, env) S else .bad
  | r + 1, i, env, S => match src.item S i with
    | none => .bad
    | some x => match tgM tg x env with
      | none => .bad
      | some env2 => (b env2 S).bind fun q S2 => match q with
        | (.nx, env3) => forI src tg b r (i + 1) env3 S2
        | (.ct, env3) => forI src tg b r (i + 1) env3 S2
        | (.bk, env3) => .ok (.nx, env3) S2
        | (.rt x, env3) => .ok (.rt x, env3) S2
def sFor (ms : Ev → M Src) (tg : Tg) (b : SM) : SM := fun env S => (ms env S).bind fun src S1 => forI src tg b src.size 0 env S1
/-- how many turns of a while are served -/
def whiles : Nat := 1000000
def whileI (t : Ev → M Bool) (b : SM) : Nat → SM
  | 0, _, _ => .bad
  | n + 1, env, S => (t env S).bind fun c S1 => if c = true then (b env S1).bind fun q S2 => match q with
      | (.nx, env3) => whileI t b n env3 S2
      | (.ct, env3) => whileI t b n env3 S2
      | (.bk, env3) => .ok (.nx, env3) S2
      | (.rt x, env3) => .ok (.rt x, env3) S2
    else .ok (.nx, env) S1
def sWhile (t : Ev → M Bool) (b : SM) : SM := whileI t b whiles
section
variable {X : Cx} {E : XK} {st : Stmt} {sts : List Stmt} {a b c e o tg : Expr} {ma mb me mo : Ev → M Val} {mt : Ev → M Bool} {m m2 : SM} {pos : Pos}
theorem PSm.ps (h : PSm X E st m) : PS X st (tS X.K E m) := by
  obtain ⟨t, p, q⟩ := h.ex
  exact ⟨fun pins s σ H D I ⟨io, env, S, er, sr, hq⟩ => p.run pins s σ H D I (q io σ H env S D er sr hq)⟩
theorem PSsm.ps (h : PSsm X E sts m) : PSs X sts (tS X.K E m) := by
  obtain ⟨t, p, q⟩ := h.ex
  exact ⟨fun pins s σ H D I ⟨io, env, S, er, sr, hq⟩ => p.run pins s σ H D I (q io σ H env S D er sr hq)⟩
theorem pssm_nil : PSsm X E [] sNx := ⟨_, pss_nil, fun io σ H env S D er sr h => h io H σ Le.refl sr er⟩
theorem pssm_cons (h1 : PSm X E st m) (h2 : PSsm X E sts m2) : PSsm X E (st :: sts) (sSeq m m2) := by
  obtain ⟨t1, p1, q1⟩ := h1.ex
  obtain ⟨t2, p2, q2⟩ := h2.ex
  refine ⟨_, pss_cons p1 p2, fun io σ H env S D er sr h => ?_⟩
  exact q1 io σ H env S { D with nx := t2 D } er sr (FinS.seq h rfl rfl rfl fun env1 S1 io1 H1 σ1 _ l s r h1 => q2 io1 σ1 H1 env1 S1 D r s h1)
theorem pssm_one (h1 : PSm X E st m) : PSsm X E [st] m := let ⟨t, p, q⟩ := h1.ex; ⟨t, pss_one p, q⟩
theorem psm_pass : PSm X E (.Pass pos) sNx := ⟨_, ps_pass, fun io σ H env S D er sr h => h io H σ Le.refl sr er⟩
theorem psm_break : PSm X E (.Break pos) sBk := ⟨_, ps_break, fun io σ H env S D er sr h => h io H σ Le.refl sr er⟩
theorem psm_continue : PSm X E (.Continue pos) sCt := ⟨_, ps_continue, fun io σ H env S D er sr h => h io H σ Le.refl sr er⟩
theorem psm_expr (he : PEm X E e me) (hs : swapsWith e none pos.line X.env = pure false := by rfl) : PSm X E (.Expr e pos) (sExp me) := by
  obtain ⟨t, p, q⟩ := he.ex
  refine ⟨_, ps_expr p hs, fun io σ H env S D er sr h => ?_⟩
  exact q io σ H env S _ er sr (fis_bind h fun x S1 io1 H1 v _ l s r h1 => h1 io1 H1 σ Le.refl s (er.mono l))
theorem psm_ret (he : PEm X E e me) : PSm X E (.Return (some e) pos) (sRet me) := by
  obtain ⟨t, p, q⟩ := he.ex
  refine ⟨_, ps_ret p, fun io σ H env S D er sr h => ?_⟩
  exact q io σ H env S _ er sr (fis_bind h fun x S1 io1 H1 v _ l s r h1 => h1 io1 H1 v Le.refl s r)
theorem psm_retN : PSm X E (.Return none pos) sRetN := ⟨_, ps_retN, fun io σ H env S D er sr h => h io H .non Le.refl sr rfl⟩
theorem psm_if {xs ys : List Stmt} (hc : PTm X E c mt) (ha : PSsm X E xs m) (hb : PSsm X E ys m2) : PSm X E (.If c xs ys pos) (sIf mt m m2) := by
  obtain ⟨t, p, q⟩ := hc.ex
  obtain ⟨t1, p1, q1⟩ := ha.ex
  obtain ⟨t2, p2, q2⟩ := hb.ex
  refine ⟨_, ps_if p p1 p2, fun io σ H env S D er sr h => ?_⟩
  refine q io σ H env S _ er sr (fis_bind h fun k S1 io1 H1 k' _ l s r h1 => ?_)
  cases (show k = k' from r)
  cases k with
  | true => exact iteT (q1 io1 σ H1 env S1 D (er.mono l) s h1)
  | false => exact iteF (q2 io1 σ H1 env S1 D (er.mono l) s h1)
theorem asg_run {te : TE} {t : Tg} (q : ∀ io σ H env S Q, ER X.K io H env σ → SR X.K io H S → FinG X.K (VR X.K) E io H Q (me env S) → te σ H Q) {io : List Addr} {σ : L2.St} {H : Hp} {env : Ev} {S : Sto} {D : Ends} (er : ER X.K io H env σ) (sr : SR X.K io H S)
    (h : FinS X.K E io H D (sAsg t me env S)) : tAsg te (tgT X.K t) D σ H := by
  refine q io σ H env S _ er sr (fis_bind h fun x S1 io1 H1 v _ l s r h1 => ?_)
  cases eg : tgM t x env with
  | none => simp only [eg] at h1; exact h1.elim
  | some env1 =>
    simp only [eg] at h1
    exact tg_ok t x v env env1 σ _ (er.mono l) r eg fun σ1 er1 _ => h1 io1 H1 σ1 Le.refl s er1
theorem psm_asg {t : Tg} (ht : PGt X tg t) (he : PEm X E e me) (hs : swapsWithSole [tg] e pos.line X.env = pure false := by rfl) (hw : swappedStores [tg] e X.env = pure none := by rfl)
    (h1 : (assignEach [tg] X.env).map (·.2) = [assign tg X.env] := by rfl) : PSm X E (.Assign [tg] e pos) (sAsg t me) := by
  obtain ⟨te, p, q⟩ := he.ex
  exact ⟨_, ps_asg p ht.pg hs hw h1, fun io σ H env S D er sr h => asg_run q er sr h⟩
/-- y = [e for ..] -/
theorem psm_setLc {N : List Str} {sc : Scope} {j : Nat} {y : Str} {py : Pos} {elt tg iter : Expr} {ifs : List Expr} {scope : Scope} {own : List (Str × Nat)} {spos : Pos} {ms : Ev → M Src} {t : Tg} {mt : Ev → M Bool} {me : Ev → M Val} (hc : X.calm = true) (hN : X.N.Nodup) (hi : PIm X E tg iter ms) (ok : blkC N sc scope own = true) (eN : X.N = N) (eS : X.env.scope = sc)
    (hg : ∀ (s : Shared) (H : Hp) (C : Addr) (cl : List (Str × Addr)) (fp : List Addr), PGt (X.blk s H scope (compEnvC scope cl C X.env) fp) tg t) (ht : ∀ (s : Shared) (H : Hp) (C : Addr) (cl : List (Str × Addr)) (fp : List Addr), PTsm (X.blk s H scope (compEnvC scope cl C X.env) fp) E ifs mt)
    (he : ∀ (s : Shared) (H : Hp) (C : Addr) (cl : List (Str × Addr)) (fp : List Addr), PEm (X.blk s H scope (compEnvC scope cl C X.env) fp) E elt me) (hv : ∀ j ∈ tgS t, j ∈ own.map (·.2))
    (hy : X.N[j]? = some y := by rfl) (hyl : X.env.scope.names.lookup y = some .local := by rfl) (hsw : swapsWith (.ListComp elt [⟨tg, iter, ifs, 0⟩] scope pos) (some (.Name y py)) spos.line X.env = pure true := by exact sw_true rfl rfl rfl (by decide +kernel)) (hs : ∀ x, foldedSetIterable iter X.env x = pure x := by intro _; rfl) :
    PSm X E (.Assign [.Name y py] (.ListComp elt [⟨tg, iter, ifs, 0⟩] scope pos) spos) (sAsg (.name j) (mNew (mLc ms t mt me (own.map (·.2))))) := by
  obtain ⟨wi, pi, qi⟩ := hi.ex
  have pl : PLm X E (.ListComp elt [⟨tg, iter, ifs, 0⟩] scope pos) (mLc ms t mt me (own.map (·.2))) := plm_lc hc hN hi ok eN eS hg ht he hv hs
  refine ⟨_, ps_setLc (te := tE X.K E me) (tt := tT X.K E mt) (g := tgT X.K t) hc hN hy hyl hsw pi (blkOk_by (by rw [eN, eS]; exact ok)) (fun s H C cl fp => (hg s H C cl fp).pg) (fun s H C cl fp => (ht s H C cl fp).pt) (fun s H C cl fp => (he s H C cl fp).pe) hs, fun io σ H env S D er sr h => ?_⟩
  -- the list is put into the store, as for a value
  have q : ∀ io σ H env S Q, ER X.K io H env σ → SR X.K io H S → FinG X.K (VR X.K) E io H Q (mNew (mLc ms t mt me (own.map (·.2))) env S) → tLc wi (tgT X.K t) (tT X.K E mt) (tE X.K E me) (own.map (·.2)) σ H Q := fun io σ H env S Q er sr h => by
    refine lc_run hv qi er sr (fin_bind h fun xs S1 io1 H1 v eo l1 s1 r1 _ => ?_)
    obtain ⟨a, vs, rfl, hv, hb, hi, k⟩ := r1
    have h2 : FinG X.K (VR X.K) E io H Q (mNew (mLc ms t mt me (own.map (·.2))) env S) := h
    unfold mNew at h2
    rw [eo] at h2
    refine fin_ok h2 (l1.own hb hi) (s1.own hi hv k) ⟨a, ?_, rfl⟩
    rw [← s1.len, List.getElem?_append_right (Nat.le_refl _), Nat.sub_self]
    rfl
  exact asg_run (t := .name j) q er sr h
theorem psm_for {iter : Expr} {body : List Stmt} {ms : Ev → M Src} {t : Tg} (hp : PassesOwn (model X.prog X.w) X.A X.env X.xe) (hc : X.calm = true) (hi : PIm X E tg iter ms) (hg : PGt X tg t) (hb : PSsm X E body m)
    (hs : ∀ x, foldedSetIterable iter X.env x = pure x := by intro _; rfl) : PSm X E (.For tg iter body [] pos) (sFor ms t m) := by
  obtain ⟨wi, pi, qi⟩ := hi.ex
  refine ⟨_, ps_for hp hc pi hg.pg hb.ps hs, fun io σ H env S D er sr h => ?_⟩
  refine qi io σ H env S _ er sr (fis_bind h fun src S1 io1 H1 J eo l1 s1 jr h1 => ?_)
  refine ⟨fun i r σ2 H2 => ∃ io2 env2 S2, i + r = src.size ∧ Le X.K io1 H1 io2 H2 ∧ ER X.K io2 H2 env2 σ2 ∧ SR X.K io2 H2 S2 ∧ FinS X.K E io2 H2 D (forI src t m r i env2 S2),
    ⟨src.size, io1, env, S1, Nat.zero_add _, Le.refl, er.mono l1, s1, h1⟩, ?_⟩
  rintro i r σ2 H2 ⟨io2, env2, S2, hsz, l2, er2, s2, hf⟩
  cases r with
  | zero =>
    left
    have ei : i = src.size := by omega
    subst ei
    simp only [forI] at hf
    by_cases hfin : src.fin S2 = true
    · rw [if_pos hfin] at hf
      exact ⟨jr.stop io2 H2 S2 l2 s2 hfin, hf io2 H2 σ2 Le.refl s2 er2⟩
    · rw [if_neg hfin] at hf
      exact hf.elim
  | succ r =>
    right
    simp only [forI] at hf
    cases ex : src.item S2 i with
    | none => simp only [ex] at hf; exact hf.elim
    | some x =>
      simp only [ex] at hf
      cases eg : tgM t x env2 with
      | none => simp only [eg] at hf; exact hf.elim
      | some env3 =>
        simp only [eg] at hf
        obtain ⟨jg, jy⟩ := jr.go io2 H2 S2 i x l2 s2 ex
        refine ⟨jg, fun σ3 H3 => ∃ io3 env3 S3, i + 1 + r = src.size ∧ Le X.K io1 H1 io3 H3 ∧ ER X.K io3 H3 env3 σ3 ∧ SR X.K io3 H3 S3 ∧ FinS X.K E io3 H3 D (forI src t m r (i + 1) env3 S3),
          fun σ3 H3 w => ⟨r, Nat.lt_succ_self r, w⟩, fun y H' hy => ?_⟩
        obtain ⟨l3, s3, rx⟩ := jy y H' hy
        refine tg_ok t x y _ env3 _ _ (er2.mono l3) rx eg fun σ3 er3 _ => ?_
        refine ⟨io2, env3, S2, er3, s3, ?_⟩
        have hf := FinS.mono l3 hf
        have l23 := l2.trans l3
        cases eb : m env3 S2 with
        | bad => rw [eb] at hf; exact hf.elim
        | err x S4 => rw [eb] at hf; exact hf
        | ok q S4 =>
          rw [eb] at hf
          obtain ⟨fl, env4⟩ := q
          cases fl with
          | nx => exact fun io5 H5 σ5 l5 s5 e5 => ⟨io5, env4, S4, by omega, l23.trans l5, e5, s5, FinS.mono l5 hf⟩
          | ct => exact fun io5 H5 σ5 l5 s5 e5 => ⟨io5, env4, S4, by omega, l23.trans l5, e5, s5, FinS.mono l5 hf⟩
          | bk => exact fun io5 H5 σ5 l5 s5 e5 => hf io5 H5 σ5 l5 s5 e5
          | rt x => exact fun io5 H5 σ5 l5 s5 e5 => hf io5 H5 σ5 l5 s5 e5
theorem psm_while {body : List Stmt} (hp : PassesOwn (model X.prog X.w) X.A X.env X.xe) (hc : PTm X E c mt) (hb : PSsm X E body m) : PSm X E (.While c body [] pos) (sWhile mt m) := by
  obtain ⟨tc, pc, qc⟩ := hc.ex
  refine ⟨_, ps_while hp pc hb.ps, fun io σ H env S D er sr h => ?_⟩
  refine ⟨fun n σ2 H2 => ∃ io2 env2 S2, Le X.K io H io2 H2 ∧ ER X.K io2 H2 env2 σ2 ∧ SR X.K io2 H2 S2 ∧ FinS X.K E io2 H2 D (whileI mt m n env2 S2), ⟨whiles, io, env, S, Le.refl, er, sr, h⟩, ?_⟩
  rintro n σ2 H2 ⟨io2, env2, S2, l2, er2, s2, hf⟩
  cases n with
  | zero => exact hf.elim
  | succ n =>
    simp only [whileI] at hf
    refine qc io2 σ2 H2 env2 S2 _ er2 s2 (fis_bind hf fun k S3 io3 H3 k' _ l3 s3 r3 h3 => ?_)
    cases (show k = k' from r3)
    cases k with
    | false => exact iteF (h3 io3 H3 σ2 Le.refl s3 (er2.mono l3))
    | true =>
      refine iteT ⟨fun σ4 H4 => ∃ io4 env4 S4, Le X.K io H io4 H4 ∧ ER X.K io4 H4 env4 σ4 ∧ SR X.K io4 H4 S4 ∧ FinS X.K E io4 H4 D (whileI mt m n env4 S4), fun σ4 H4 w => ⟨n, Nat.lt_succ_self n, w⟩, io3, env2, S3, er2.mono l3, s3, ?_⟩
      have l23 := l2.trans l3
      have h3 : FinS X.K E io3 H3 D ((m env2 S3).bind fun q S2 => match q with
        | (.nx, env3) => whileI mt m n env3 S2
        | (.ct, env3) => whileI mt m n env3 S2
        | (.bk, env3) => .ok (.nx, env3) S2
        | (.rt x, env3) => .ok (.rt x, env3) S2) := h3
      cases eb : m env2 S3 with
      | bad => rw [eb] at h3; exact h3.elim
      | err x S4 => rw [eb] at h3; exact h3
      | ok q S4 =>
        rw [eb] at h3
        obtain ⟨fl, env4⟩ := q
        cases fl with
        | nx => exact fun io5 H5 σ5 l5 s5 e5 => ⟨io5, env4, S4, l23.trans l5, e5, s5, FinS.mono l5 h3⟩
        | ct => exact fun io5 H5 σ5 l5 s5 e5 => ⟨io5, env4, S4, l23.trans l5, e5, s5, FinS.mono l5 h3⟩
        | bk => exact fun io5 H5 σ5 l5 s5 e5 => h3 io5 H5 σ5 l5 s5 e5
        | rt x => exact fun io5 H5 σ5 l5 s5 e5 => h3 io5 H5 σ5 l5 s5 e5
end
end Mx

set_option linter.all false
set_option maxRecDepth 100000
set_option maxHeartbeats 4000000
namespace Mx
open PySem PySem.Spec PyProof.Rows L2

/-- o[i] = e, o a list of the store -/
def sSub (o i e : Ev → M Val) : SM := fun env S => (e env S).bind fun x S1 => (o env S1).bind fun l S2 => (i env S2).bind fun k S3 => match l, k with
  | .loc n, .int j => (match S3[n]? with
    | some (.lst xs) => (match ixN xs.length j with | some q => .ok (.nx, env) (S3.set n (.lst (xs.set q x))) | none => .bad)
    | none => .bad)
  | _, _ => .bad
/-- x.append(e), x a list of the store -/
def sApp (o e : Ev → M Val) : SM := fun env S => (o env S).bind fun l S1 => match l with
  | .loc n => (match S1[n]? with
    | some (.lst _) => (e env S1).bind fun x S2 => (match S2[n]? with
      | some (.lst xs) => if xs.length < lim then .ok (.nx, env) (S2.set n (.lst (xs ++ [x]))) else .bad
      | none => .bad)
    | none => .bad)
  | _ => .bad
def gIAdd : Val → Val → M Val
  | .int i, .int j, S => .ok (.int (i + j)) S
  | .str x, .str y, S => if x.length + y.length ≤ lim then .ok (.str (x ++ y)) S else .bad
  | _, _, _ => .bad
def sAug (j : Nat) (g : Val → Val → M Val) (e : Ev → M Val) : SM := fun env S => match env[j]? with
  | some (some x) => (e env S).bind fun y S1 => (g x y S1).bind fun z S2 => .ok (.nx, env.set j (some z)) S2
  | _ => .bad
section
variable {X : Cx} {E : XK} {st : Stmt} {sts : List Stmt} {a b c e o tg : Expr} {es : List Expr} {ma mb mc me mo mi : Ev → M Val} {pos p : Pos} {x : Str}
theorem psm_sub {i : Expr} {p2 : Pos} (he : PEm X E e me) (ho : PEm X E o mo) (hi : PEm X E i mi) (hs : swapsWithSole [.Subscript o i p2] e pos.line X.env = pure false := by rfl) (hw : swappedStores [.Subscript o i p2] e X.env = pure none := by rfl)
    (h1 : (assignEach [.Subscript o i p2] X.env).map (·.2) = [assign (.Subscript o i p2) X.env] := by rfl)
    (hq : ∀ v, assign (.Subscript o i p2) X.env v = (do
      let ov ← holding [v] (eval o X.env)
      let iv ← holding [v, ov] (eval i X.env)
      standAt p2
      holding [v, ov, iv] (setItem ov iv v)
      release [v, ov, iv] []) := by intro _; rfl) : PSm X E (.Assign [.Subscript o i p2] e pos) (sSub mo mi me) := by
  obtain ⟨te, pe, qe⟩ := he.ex
  obtain ⟨to, po, qo⟩ := ho.ex
  obtain ⟨ti, pi, qi⟩ := hi.ex
  refine ⟨_, ps_asg pe (pg_sub po pi set_list hq) hs hw h1, fun io σ H env S D er sr h => ?_⟩
  refine qe io σ H env S _ er sr (fis_bind h fun y S1 io1 H1 v _ l1 s1 r1 h1 => ?_)
  refine qo io1 σ H1 env S1 _ (er.mono l1) s1 (fis_bind h1 fun l S2 io2 H2 w _ l2 s2 r2 h2 => ?_)
  refine qi io2 σ H2 env S2 _ (er.mono (l1.trans l2)) s2 (fis_bind h2 fun k S3 io3 H3 u _ l3 s3 r3 h3 => ?_)
  cases l with
  | loc n =>
    cases k with
    | int j =>
      cases (show u = .int j from r3)
      obtain ⟨q, hi, rfl⟩ := VR.mono l3 _ _ r2
      simp only at h3
      cases eo : S3[n]? with
      | none => simp only [eo] at h3; exact h3.elim
      | some ob =>
        cases ob with
        | lst xs =>
          simp only [eo] at h3
          obtain ⟨vs, hv, kk⟩ := s3.is eo hi
          cases ei : ixN xs.length j with
          | none => simp only [ei] at h3; exact h3.elim
          | some t =>
            simp only [ei] at h3
            refine ⟨q, vs, j, t, rfl, rfl, hv, by rw [kk.length]; exact ei, ?_⟩
            have L : Le X.K io3 H3 io3 (upd H3 q (.lst (vs.set t v))) := Le.mut hv hi
            exact h3 io3 _ σ L (s3.upd hi eo hv (VRs.set t (VR.mono (l2.trans l3) _ _ r1) kk)) (er.mono ((l1.trans (l2.trans l3)).trans L))
    | _ => exact h3.elim
  | _ => exact h3.elim
theorem psm_app {apos : Pos} (ho : PEm X E o mo) (he : PEm X E e me) (hsw : swapsWith (.Call (.Attribute o "append" apos) [e] [] p) none pos.line X.env = pure false := by rfl) (hbase : attributeBase o "append" X.env (eval o X.env) = eval o X.env := by rfl)
    (hfew : ((backTo p (starEach [e] X.env)).all (fun x => !x.1) && (backToKw p (keywordEach [] X.env)).all (fun x => x.1.isSome)
      && decide (([e] : List Expr).length + ([] : List Keyword).length + (if ([] : List Keyword).isEmpty then 0 else 1) < 30)) = true := by rfl)
    (hline : (apos.endLine == p.line) = true := by rfl) (hs : starEach [e] X.env = (false, eval e X.env) :: starEach [] X.env := by rfl) (hplain : (backTo p (starEach [] X.env)).any (·.1) = false := by rfl) :
    PSm X E (.Expr (.Call (.Attribute o "append" apos) [e] [] p) pos) (sApp mo me) := by
  obtain ⟨to, po, qo⟩ := ho.ex
  obtain ⟨te, pe, qe⟩ := he.ex
  refine ⟨_, ps_expr (pe_bm PySem.F.plainAttrs_list PySem.F.slot_list_append PySem.F.type_list_append mt_append po (pa_cons pe pa_nil hs) hbase hfew hline hs hplain) hsw, fun io σ H env S D er sr h => ?_⟩
  refine qo io σ H env S _ er sr (fis_bind h fun l S1 io1 H1 v _ l1 s1 r1 h1 => ?_)
  cases l with
  | loc n =>
    obtain ⟨q, hi, rfl⟩ := r1
    simp only at h1
    cases eo : S1[n]? with
    | none => simp only [eo] at h1; exact h1.elim
    | some ob =>
      cases ob with
      | lst xs0 =>
        simp only [eo] at h1
        obtain ⟨vs0, hv0, _⟩ := s1.is eo hi
        refine ⟨.inl ⟨rfl, _, SqL.of hv0⟩, ?_⟩
        refine qe io1 σ H1 env S1 _ (er.mono l1) s1 (fis_bind h1 fun y S2 io2 H2 w _ l2 s2 r2 h2 => ?_)
        cases e2 : S2[n]? with
        | none => simp only [e2] at h2; exact h2.elim
        | some ob2 =>
          cases ob2 with
          | lst xs =>
            simp only [e2] at h2
            have hi2 := l2.ia n q hi
            obtain ⟨vs, hv, kk⟩ := s2.is e2 hi2
            by_cases hz : xs.length < lim
            · rw [if_pos hz] at h2
              have L : Le X.K io2 H2 io2 (upd H2 q (.lst (vs ++ [w]))) := Le.mut hv hi2
              exact ⟨q, vs, w, rfl, rfl, hv, by rw [kk.length]; exact lim_lt hz, h2 io2 _ σ L (s2.upd hi2 e2 hv (kk.app (VRs.one r2))) (er.mono ((l1.trans l2).trans L))⟩
            · rw [if_neg hz] at h2
              exact h2.elim
  | _ => exact h1.elim
theorem psm_aug {op : Operator} {g : Val → Val → M Val} {j : Nat} {y : Str} {p2 : Pos} (hN : X.N.Nodup) (ho : OpM X E (inplaceOp op) g) (he : PEm X E e me) (hi : X.N[j]? = some y := by rfl) (hx : Loc X.env.scope y := by first | exact Or.inl rfl | exact Or.inr rfl)
    (hf : X.fn y = true ∨ X.env.scope.names.lookup y = some .local := by first | exact .inl rfl | exact .inr rfl) : PSm X E (.AugAssign (.Name y p2) op e pos) (sAug j g me) := by
  obtain ⟨te, pe, qe⟩ := he.ex
  obtain ⟨r, pr, qr⟩ := ho
  refine ⟨_, ps_aug hN hi hx pe (ti := r) (fun pins s σ H x y v u Q I rx ry h => pr pins s σ H x y v u Q I rx ry h) hf, fun io σ H env S D er sr h => ?_⟩
  unfold sAug at h
  cases ej : env[j]? with
  | none => simp only [ej] at h; exact h.elim
  | some ob =>
    cases ob with
    | none => simp only [ej] at h; exact h.elim
    | some x =>
      simp only [ej] at h
      obtain ⟨v, e1, rv⟩ := er.get j x ej
      refine ⟨v, e1, qe io σ H env S _ er sr (fis_bind h fun y S1 io1 H1 w _ l1 s1 r1 h1 => ?_)⟩
      refine qr io1 H1 S1 x y v w _ s1 (VR.mono l1 _ _ rv) r1 (fis_bind h1 fun z S2 io2 H2 u _ l2 s2 r2 h2 => ?_)
      exact h2 io2 H2 _ Le.refl s2 ((er.mono (l1.trans l2)).set j r2)
theorem opm_iadd : OpM X E (inplaceOp .Add) gIAdd := by
  refine ⟨_, OpR.or iop_add iop_add_str, fun io H S x y v w Q s rx ry h => ?_⟩
  cases x with
  | int i =>
    cases y with
    | int j =>
      cases (show v = .int i from rx)
      cases (show w = .int j from ry)
      exact .inl ⟨i, j, rfl, rfl, fin_here h s rfl⟩
    | _ => exact h.elim
  | str x =>
    cases y with
    | str y =>
      cases (show v = .str _ from rx)
      cases (show w = .str _ from ry)
      simp only [gIAdd] at h
      by_cases hl : x.length + y.length ≤ lim
      · rw [if_pos hl] at h
        refine .inr ⟨_, _, rfl, rfl, ?_, ?_⟩
        · show x.toArray.size + y.toArray.size ≤ sizeLine
          rw [List.size_toArray, List.size_toArray]
          exact lim_le hl
        · have e : ((⟨x.toArray⟩ : Str) ++ (⟨y.toArray⟩ : Str)) = ⟨(x ++ y).toArray⟩ := by
            show (⟨x.toArray ++ y.toArray⟩ : Str) = _
            rw [List.append_toArray]
          rw [e]
          exact fin_here h s rfl
      · rw [if_neg hl] at h
        exact h.elim
    | _ => exact h.elim
  | _ => exact h.elim

/-! ### defs and their calls -/
/-- a def's promise: it does what g does -/
def spI (K : PySem.W.Frag) (g : List Val → M Val) : Sp := fun vs H Q E => ∃ io S xs, SR K io H S ∧ VRs K io H xs vs ∧ FinG K (VR K) E io H Q (g xs S)
/-- a def as it stands, by its name -/
structure Fd (P : Program) (w : World) (K : PySem.W.Frag) (mg : Str → Option Value) (base : Heap) (CX : CXT) (k : Nat) (x : Str) (g : List Val → M Val) : Prop where
  ex : ∃ f fd ps, FnOk P w K mg base CX k f fd ps (spI K g) ∧ mg x = some (.ref f) ∧ PySem.W.keepIn K (.ref f) = true ∧ Binds K fd ps []
def mCall (g : List Val → M Val) (m : Ev → M (List Val)) : Ev → M Val := fun env S => (m env S).bind fun xs S1 => g xs S1
variable {CX : CXT} {k : Nat} {g : List Val → M Val} {mr : Ev → M (List Val)}
theorem pem_call (c : Fd X.prog X.w X.K X.mg X.base CX k x g) (hr : Room k X.A) (hx : Passes CX X E) (ha : PAm X E (e :: es) mr) (hg : Gl X x := by rfl) (hdb : (x == ("__debug__" : Str)) = false := by decide) (he : starEach (e :: es) X.env = (false, eval e X.env) :: starEach es X.env := by rfl) (hpl : (backTo pos (starEach es X.env)).any (·.1) = false := by rfl) :
    PEm X E (.Call (.Name x p) (e :: es) [] pos) (mCall g mr) := by
  obtain ⟨f, fd, ps, F, hm, hk, hb⟩ := c.ex
  obtain ⟨t, pt, qt⟩ := ha.ex
  refine ⟨_, pe_call F hr hg hm hk hb .nil hx pt hdb he hpl, fun io σ H env S Q er sr h => ?_⟩
  refine qt io σ H env S _ er sr (fin_bind h fun xs S1 io1 H1 vs _ l1 s1 r1 h1 => ?_)
  rw [List.append_nil]
  exact ⟨io1, S1, xs, s1, r1, h1⟩
theorem pem_call0 (c : Fd X.prog X.w X.K X.mg X.base CX k x g) (hr : Room k X.A) (hx : Passes CX X E) (hg : Gl X x := by rfl) (hdb : (x == ("__debug__" : Str)) = false := by decide) : PEm X E (.Call (.Name x p) [] [] pos) (mCall g mNil) := by
  obtain ⟨f, fd, ps, F, hm, hk, hb⟩ := c.ex
  refine ⟨_, pe_call0 F hr hg hm hk hb .nil hx hdb, fun io σ H env S Q er sr h => ?_⟩
  exact ⟨io, S, [], sr, rfl, h⟩
end
/-- a def's body run: n parameters, N names -/
def runF (n N : Nat) (b : SM) : List Val → M Val := fun xs S => if xs.length = n then (b (xs.map some ++ List.replicate (N - xs.length) none) S).bind fun q S1 => match q with
    | (.nx, _) => .ok .non S1
    | (.rt v, _) => .ok v S1
    | _ => .bad
  else .bad
/-! what a def has laid for itself alone is forgotten behind it -/
mutual
def bel (n : Nat) : Val → Bool
  | .tup xs => bels n xs
  | .kl xs => bels n xs
  | .loc m => decide (m < n)
  | _ => true
def bels (n : Nat) : List Val → Bool
  | [] => true
  | x :: xs => bel n x && bels n xs
end
def Ob.bel (n : Nat) : Ob → Bool
  | .lst xs => bels n xs
def trm (g : List Val → M Val) : List Val → M Val := fun xs S => match g xs S with
  | .ok v S1 => if (bel S.length v && (S1.take S.length).all (Ob.bel S.length)) = true then .ok v (S1.take S.length) else .ok v S1
  | o => o
section
variable {K : PySem.W.Frag} {io : List Addr} {H : Hp} {S : Sto}
mutual
theorem VR.cut (n : Nat) : ∀ (x : Val) (v : V), bel n x = true → VR K io H x v → VR K (io.take n) H x v
  | .non, _, _, h => h
  | .bl _, _, _, h => h
  | .int _, _, _, h => h
  | .str _, _, _, h => h
  | .ext _, _, _, h => h
  | .loc m, _, hb, ⟨a, h, e⟩ => ⟨a, by rw [List.getElem?_take_of_lt (of_decide_eq_true hb)]; exact h, e⟩
  | .tup xs, _, hb, ⟨a, vs, e, h, k⟩ => ⟨a, vs, e, h, VRs.cut2 n xs vs hb k⟩
  | .kl xs, _, hb, ⟨a, vs, e, h, k⟩ => ⟨a, vs, e, h, VRs.cut2 n xs vs hb k⟩
theorem VRs.cut2 (n : Nat) : ∀ (xs : List Val) (vs : List V), bels n xs = true → VRs K io H xs vs → VRs K (io.take n) H xs vs
  | [], _, _, h => h
  | x :: xs, _, hb, ⟨v, ws, e, h, k⟩ => by
    simp only [bels, Bool.and_eq_true] at hb
    exact ⟨v, ws, e, VR.cut n x v hb.1 h, VRs.cut2 n xs ws hb.2 k⟩
end
theorem trm_ok {g : List Val → M Val} {xs : List Val} {E : XK} {Q : VK} (s : SR K io H S) (h : FinG K (VR K) E io H Q (trm g xs S)) : FinG K (VR K) E io H Q (g xs S) := by
  unfold trm at h
  cases eo : g xs S with
  | bad => rw [eo] at h; exact h
  | err x S1 => rw [eo] at h; exact h
  | ok v S1 =>
    rw [eo] at h
    simp only at h
    by_cases hc : (bel S.length v && (S1.take S.length).all (Ob.bel S.length)) = true
    · rw [if_pos hc] at h
      rw [Bool.and_eq_true] at hc
      intro io' H' w l s' r
      have hpre : io = io'.take S.length := by
        refine List.ext_getElem? fun i => ?_
        by_cases hi : i < S.length
        · rw [List.getElem?_take_of_lt hi, List.getElem?_eq_getElem (by rw [s.len]; exact hi)]
          exact (l.ia i _ (List.getElem?_eq_getElem (by rw [s.len]; exact hi))).symm
        · rw [List.getElem?_eq_none (by rw [s.len]; omega), List.getElem?_eq_none (by rw [List.length_take]; omega)]
      have hle : S.length ≤ S1.length := by
        rw [← s.len, ← s'.len]
        rcases Nat.lt_or_ge io'.length io.length with hlt | hge
        · have := l.ia io'.length _ (List.getElem?_eq_getElem hlt)
          rw [List.getElem?_eq_none (Nat.le_refl _)] at this
          cases this
        · exact hge
      refine h io H' w ⟨fun _ _ h => h, l.tu, l.fz, fun a o ha hn => ⟨(l.fr a o ha hn).1, hn⟩⟩ ?_ ?_
      · refine ⟨by rw [List.length_take, Nat.min_eq_left hle]; exact s.len, fun n m a h1 h2 => s.inj n m a h1 h2, fun n a o h1 h2 => ?_⟩
        have hn := (List.getElem?_eq_some_iff.mp h1).1
        rw [s.len] at hn
        rw [List.getElem?_take_of_lt hn] at h2
        have q := s'.obj n a o (l.ia n a h1) h2
        have hb := List.all_eq_true.mp hc.2 o (List.mem_of_getElem? (by rw [List.getElem?_take_of_lt hn]; exact h2))
        cases o with
        | lst ys =>
          obtain ⟨vs, hv, k⟩ := q
          refine ⟨vs, hv, ?_⟩
          rw [hpre]
          exact VRs.cut2 _ _ _ hb k
      · rw [hpre]
        exact VR.cut _ _ _ hc.1 r
    · rw [if_neg hc] at h
      exact h
end
theorem er_start {K : PySem.W.Frag} {io : List Addr} {H : Hp} {N : List Str} {xs : List Val} {vs : List V} (r : VRs K io H xs vs) : ER K io H (xs.map some ++ List.replicate (N.length - xs.length) none) (L2.start N vs) := by
  refine ⟨?_, fun i y e => ?_⟩
  · unfold L2.start
    rw [List.length_append, List.length_append, List.length_map, List.length_map, List.length_replicate, List.length_replicate, r.length]
  · by_cases hi : i < xs.length
    · rw [List.getElem?_append_left (by rw [List.length_map]; exact hi), List.getElem?_map] at e
      cases ex : xs[i]? with
      | none => rw [ex] at e; cases e
      | some z =>
        rw [ex] at e
        cases e
        obtain ⟨v, ev, rv⟩ := r.get ex
        refine ⟨v, ?_, rv⟩
        unfold L2.start
        rw [List.getElem?_append_left (by rw [List.length_map, r.length]; exact hi), List.getElem?_map, ev]
        rfl
    · rw [List.getElem?_append_right (by rw [List.length_map]; omega), List.length_map] at e
      have := List.mem_of_getElem? e
      rw [List.mem_replicate] at this
      cases this.2
end Mx

set_option linter.all false
set_option maxRecDepth 100000
set_option maxHeartbeats 4000000
namespace Mx
open PySem PySem.Spec PyProof.Rows L2

/-- a written text's codes -/
def cs (s : String) : List Nat := s.toList.map Char.toNat
theorem cs_str (s : String) : Str.ofString s = ⟨(cs s).toArray⟩ := Str.ofString_eq_toList s
theorem cs_inj {s t : String} : cs s = cs t ↔ s = t := by
  constructor
  · intro h
    unfold cs at h
    have go : ∀ (a b : List Char), a.map Char.toNat = b.map Char.toNat → a = b := by
      intro a
      induction a with
      | nil => intro b h; cases b with
        | nil => rfl
        | cons c r => cases h
      | cons c r ih => intro b h; cases b with
        | nil => cases h
        | cons d q =>
          rw [List.map_cons, List.map_cons] at h
          injection h with h1 h2
          rw [ih q h2, Char.toNat_inj.mp h1]
    exact String.toList_inj.mp (go _ _ h)
  · intro h; rw [h]
/-! ### values of truth -/
def mNotV (a : Ev → M Val) : Ev → M Val := fun env S => (a env S).bind fun x S1 => (truth x S1).bind fun k S2 => .ok (.bl (!k)) S2
def mAndV (a b : Ev → M Val) : Ev → M Val := fun env S => (a env S).bind fun x S1 => (truth x S1).bind fun k S2 => if k = true then b env S2 else .ok x S2
def mOrV (a b : Ev → M Val) : Ev → M Val := fun env S => (a env S).bind fun x S1 => (truth x S1).bind fun k S2 => if k = true then .ok x S2 else b env S2
theorem truth_st {x : Val} {S S' : Sto} {k : Bool} (h : truth x S = .ok k S') : S' = S := by
  cases x with
  | str z =>
    simp only [truth] at h
    split at h
    · cases h; rfl
    · cases h
  | loc n =>
    simp only [truth] at h
    split at h
    · cases h; rfl
    · cases h
  | ext a => cases h
  | _ => cases h; rfl
section
variable {X : Cx} {E : XK} {a b c e : Expr} {es : List Expr} {ma mb mc : Ev → M Val} {pos : Pos}
theorem pem_cs {s : String} {j : Nat} {pos : Pos} : PEm X E (.Constant (.str (Str.ofString s)) j pos) (mC (.str (cs s))) := pem_c pe_str fun _ _ => by rw [cs_str]; rfl
theorem pem_gint {x : Str} {i : Int} (h : ∃ t, X.mg x = some (.int i t)) (hg : Gl X x := by rfl) (hd : (x == ("__debug__" : Str)) = false := by decide) : PEm X E (.Name x pos) (mC (.int i)) := by
  obtain ⟨t, h⟩ := h
  exact pem_glob (w := .int i) h ⟨t, rfl⟩ (fun _ _ => rfl) hg hd
theorem pem_gstr {x : Str} {s : String} (h : ∃ t, X.mg x = some (.str (Str.ofString s) t)) (hg : Gl X x := by rfl) (hd : (x == ("__debug__" : Str)) = false := by decide) : PEm X E (.Name x pos) (mC (.str (cs s))) := by
  obtain ⟨t, h⟩ := h
  exact pem_glob (w := .str (Str.ofString s)) h ⟨t, rfl⟩ (fun _ _ => by rw [cs_str]; rfl) hg hd
theorem pem_notV (ha : PEm X E a ma) : PEm X E (.UnaryOp .Not a pos) (mNotV ma) := by
  obtain ⟨t, p, q⟩ := ha.ex
  refine ⟨_, pe_notT p, fun io σ H env S Q er sr h => ?_⟩
  refine q io σ H env S _ er sr (fin_bind h fun x S1 io1 H1 v _ l1 s1 r1 h1 => ?_)
  refine tru_of (Q := fun k H2 => Q (.bl (!k)) H2) s1 r1 (fin_bind h1 fun b S2 io2 H2 b' _ l2 s2 eb h2 => ?_)
  cases (show b = b' from eb)
  exact fin_here h2 s2 rfl
theorem pem_one {op} (h : PEm X E a ma) : PEm X E (.BoolOp op [a] pos) ma := let ⟨t, p, q⟩ := h.ex; ⟨t, pe_one p, q⟩
theorem pem_andV {rest : List Expr} (ha : PEm X E a ma) (hb : PEm X E (.BoolOp .And (b :: rest) pos) mb) : PEm X E (.BoolOp .And (a :: b :: rest) pos) (mAndV ma mb) := by
  obtain ⟨t, p, q⟩ := ha.ex
  obtain ⟨t2, p2, q2⟩ := hb.ex
  refine ⟨_, pe_andT p p2, fun io σ H env S Q er sr h => ?_⟩
  refine q io σ H env S _ er sr (fin_bind h fun x S1 io1 H1 v _ l1 s1 r1 h1 => ?_)
  have hx : ∀ {P : Bool → Hp → Prop}, (∃ k, TruV X.K v H1 k ∧ ∃ H2, H2 = H1 ∧ P k H2) → ∃ k, TruV X.K v H1 k ∧ P k H1 := fun ⟨k, e, H2, e2, p⟩ => ⟨k, e, e2 ▸ p⟩
  cases et : truth x S1 with
  | bad => rw [et] at h1; exact h1.elim
  | err y S2 => exact (by cases x <;> simp only [truth] at et <;> first | cases et | (split at et <;> cases et))
  | ok k S2 =>
    have e := truth_st et
    subst e
    rw [et] at h1
    obtain ⟨k', e1, e2⟩ := tru_of (E := E) (Q := fun k' H2 => k' = k) s1 r1 (by rw [et]; exact fun _ _ b' _ _ eb => (show k = b' from eb).symm)
    subst e2
    refine ⟨_, e1, ?_⟩
    have h1 : FinG X.K (VR X.K) E io1 H1 Q (if k' = true then mb env S2 else .ok x S2) := h1
    cases k' with
    | true => exact iteT (q2 io1 σ H1 env S2 Q (er.mono l1) s1 h1)
    | false => exact iteF (fin_here h1 s1 r1)
theorem pem_orV {rest : List Expr} (ha : PEm X E a ma) (hb : PEm X E (.BoolOp .Or (b :: rest) pos) mb) : PEm X E (.BoolOp .Or (a :: b :: rest) pos) (mOrV ma mb) := by
  obtain ⟨t, p, q⟩ := ha.ex
  obtain ⟨t2, p2, q2⟩ := hb.ex
  refine ⟨_, pe_orT p p2, fun io σ H env S Q er sr h => ?_⟩
  refine q io σ H env S _ er sr (fin_bind h fun x S1 io1 H1 v _ l1 s1 r1 h1 => ?_)
  cases et : truth x S1 with
  | bad => rw [et] at h1; exact h1.elim
  | err y S2 => exact (by cases x <;> simp only [truth] at et <;> first | cases et | (split at et <;> cases et))
  | ok k S2 =>
    have e := truth_st et
    subst e
    rw [et] at h1
    obtain ⟨k', e1, e2⟩ := tru_of (E := E) (Q := fun k' H2 => k' = k) s1 r1 (by rw [et]; exact fun _ _ b' _ _ eb => (show k = b' from eb).symm)
    subst e2
    refine ⟨_, e1, ?_⟩
    have h1 : FinG X.K (VR X.K) E io1 H1 Q (if k' = true then .ok x S2 else mb env S2) := h1
    cases k' with
    | true => exact iteT (fin_here h1 s1 r1)
    | false => exact iteF (q2 io1 σ H1 env S2 Q (er.mono l1) s1 h1)
theorem pem_eqG {α β : Type} {R : Hp → List Addr → Hp → α → V → Prop} {R' : Hp → List Addr → Hp → β → V → Prop} {D : α → Sto → Option PyData} {D' : β → Sto → Option PyData} {ma : Ev → M α} {mb : Ev → M β} {op : CmpOp} {neg : Bool}
    (ho : OpR X (compareOp op) (rEqP X.K neg)) (w : View X.K R D) (w' : View X.K R' D') (ha : PXm X E R a ma) (hb : PXm X E R' b mb) (hm : behindInMarks op b = false) : PEm X E (.Compare a [op] [b] pos) (mBl (mEq neg D D' ma mb)) := by
  obtain ⟨ta, pa, qa⟩ := ha.ex
  obtain ⟨tb, pb, qb⟩ := hb.ex
  refine ⟨_, pe_cmpR ho pa pb hm, fun io σ H env S Q er sr h => ?_⟩
  have h : FinG X.K RB E io H (fun k H' => Q (.bl k) H') (mEq neg D D' ma mb env S) := fin_bind h fun c S1 io1 H1 v _ l s r h1 => by
    cases (show c = v from r)
    exact fin_here h1 s rfl
  refine qa io σ H env S _ er sr (fin_bind h fun x S1 io1 H1 v _ l1 s1 r1 h1 => ?_)
  refine qb io1 σ H1 env S1 _ (er.mono l1) s1 (fin_bind h1 fun y S2 io2 H2 u _ l2 s2 r2 h2 => ?_)
  cases e1 : D x S2 with
  | none => simp only [e1] at h2; exact h2.elim
  | some d =>
    cases e2 : D' y S2 with
    | none => simp only [e1, e2] at h2; exact h2.elim
    | some e =>
      simp only [e1, e2] at h2
      obtain ⟨d1, d2⟩ := w.dp s2 (w.mono l2 r1) e1
      obtain ⟨d3, d4⟩ := w'.dp s2 r2 e2
      by_cases hz : min d.depth e.depth ≤ 64
      · rw [if_pos hz] at h2
        have q := fin_here (R := RB) h2 s2 rfl
        exact ⟨d, e, d1, d3, d2, d4, hz, q⟩
      · rw [if_neg hz] at h2
        exact h2.elim
theorem pem_chn {op op' : CmpOp} {g g' : Val → Val → M Bool} (ho : TsM X E (compareOp op) g) (ho' : TsM X E (compareOp op') g') (ha : PEm X E a ma) (hb : PEm X E b mb) (hc : PEm X E c mc)
    (hm : lastMarks [op, op'] [b, c] = false := by with_unfolding_all rfl) : PEm X E (.Compare a [op, op'] [b, c] pos) (mBl (mChn g g' ma mb mc)) := by
  obtain ⟨ta, pa, qa⟩ := ha.ex
  obtain ⟨tb, pb, qb⟩ := hb.ex
  obtain ⟨tc, pc, qc⟩ := hc.ex
  obtain ⟨r, pr, qr⟩ := ho
  obtain ⟨r', pr', qr'⟩ := ho'
  have wk : OpR X (compareOp op') (fun v w H Q => r' v w H fun z H' => ∃ k, z = .bl k ∧ Q (.bl k) H') := by
    intro pins s σ H x y v u Q I rx ry h
    exact thn (pr' pins s σ H x y v u _ I rx ry h) fun u' s' ⟨z, H', I', rz, k, ez, q⟩ => ⟨z, H', I', rz, by rw [ez]; exact q⟩
  refine ⟨_, pe_chain pr wk pa pb pc hm, fun io σ H env S Q er sr h => ?_⟩
  have h : FinG X.K RB E io H (fun k H' => Q (.bl k) H') (mChn g g' ma mb mc env S) := fin_bind h fun c S1 io1 H1 v _ l s r h1 => by
    cases (show c = v from r)
    exact fin_here h1 s rfl
  refine run2 (g := fun x y S2 => (g x y S2).bind fun k S3 => if k = true then (mc env S3).bind fun z S4 => g' y z S4 else .ok false S3) qa qb er sr h fun io2 H2 S2 x y v w l2 s2 r1 r2 h2 => ?_
  refine qr io2 H2 S2 x y v w _ s2 r1 r2 (fin_bind h2 fun k S3 io3 H3 k' _ l3 s3 e3 h3 => ?_)
  cases (show k = k' from e3)
  cases k with
  | false =>
    have q := fin_here (R := RB) h3 s3 rfl
    exact iteF q
  | true =>
    refine iteT ?_
    refine qc io3 σ H3 env S3 _ (er.mono (l2.trans l3)) s3 (fin_bind h3 fun z S4 io4 H4 u _ l4 s4 r4 h4 => ?_)
    exact qr' io4 H4 S4 y z w u _ s4 (VR.mono (l3.trans l4) _ _ r2) r4 h4
end
section
variable {P : Program} {w : World} {K : PySem.W.Frag} {mg : Str → Option Value} {base : Heap}
/-- THE RULE for a def without exceptions, by the head's facts -/
theorem fn_md {x qual : Str} {st : Stmt} {f : Addr} {fd : FuncData} {N ps : List Str} {k : Nat} {m : SM} (F : FunD K x qual (defArgs st) (defBody st) (defScope st) [] [] f fd) (S : FnScope N ps (defScope st))
    (hb : ∀ (cdv : Value) (A : Around) (outer : List Env) (s : Shared) (H : Hp) (E : XK), Room k (A.deeper (envOfC qual (defScope st) s.heap.objs.size f cdv)) →
      PSsm (cxOf CX0 P w K mg base N qual (defScope st) f cdv A outer s H E).nox E (defBody st) m) : FnOk P w K mg base CX0 (k + 1) f fd ps (spI K (trm (runF ps.length N.length m))) := by
  refine F.ok S (fun vs H Q E h => ?_) (fun cdv A outer s H vs Q E hr h => ?_)
  · obtain ⟨io, St, xs, sr, r, hf⟩ := h
    have hf := trm_ok sr hf
    by_cases hl : xs.length = ps.length
    · rw [r.length, hl]
    · unfold runF at hf
      rw [if_neg hl] at hf
      exact hf.elim
  · obtain ⟨io, St, xs, sr, r, hf⟩ := h
    have hf := trm_ok sr hf
    obtain ⟨t, pt, qt⟩ := (hb cdv A outer s H E hr).ex
    refine ⟨t, PSs.nox pt, ?_⟩
    by_cases hl : xs.length = ps.length
    · unfold runF at hf
      rw [if_pos hl] at hf
      have er : ER K io H (xs.map some ++ List.replicate (N.length - xs.length) none) (L2.start N vs) := er_start r
      refine qt io _ H _ St _ er sr ?_
      cases eo : m (xs.map some ++ List.replicate (N.length - xs.length) none) St with
      | bad => rw [eo] at hf; exact hf
      | err y S1 => rw [eo] at hf; exact hf
      | ok q S1 =>
        rw [eo] at hf
        obtain ⟨fl, env⟩ := q
        cases fl with
        | nx => exact fun io' H' σ' l s' _ => hf io' H' .non l s' rfl
        | rt v => exact fun io' H' v l s' rv => hf io' H' v l s' rv
        | bk => exact hf.elim
        | ct => exact hf.elim
    · unfold runF at hf
      rw [if_neg hl] at hf
      exact hf.elim
/-- at level 0 no def is called -/
theorem fn_m0 {f : Addr} {fd : FuncData} {ps : List Str} : FnOk P w K mg base CX0 0 f fd ps (spI K fun _ _ => .bad) :=
  ⟨fun vs H Q E ⟨_, _, _, _, _, h⟩ => h.elim, fun A outer s H args us vs Q E _ _ _ _ ⟨_, _, _, _, _, h⟩ => h.elim⟩
end
theorem room66 {k : Nat} {A : Around} (r : Room k A) : A.units + 66 < cLine := by have := r.un; omega
end Mx

set_option linter.all false
set_option maxRecDepth 100000
set_option maxHeartbeats 4000000
namespace Mx
open PySem PySem.Spec PyProof.Rows L2
/-- + of numbers, texts, tuples, lists -/
def gPlus (x y : Val) : M Val := fun S => match x, y with
  | .loc n, .loc m => (match S[n]?, S[m]? with
    | some (.lst xs), some (.lst ys) => if xs.length + ys.length ≤ lim then .ok (.loc S.length) (S ++ [.lst (xs ++ ys)]) else .bad
    | _, _ => .bad)
  | x, y => gAdd x y S
theorem opm_plus {X : Cx} {E : XK} : OpM X E (binaryOp .Add) gPlus := by
  obtain ⟨r, pr, q⟩ := opm_add (X := X) (E := E)
  refine ⟨_, OpR.or pr op_cat, fun io H S x y v w Q s rx ry h => ?_⟩
  by_cases hx : ∃ n m, x = .loc n ∧ y = .loc m
  · obtain ⟨n, m, rfl, rfl⟩ := hx
    obtain ⟨p, hi, rfl⟩ := rx
    obtain ⟨p2, hi2, rfl⟩ := ry
    simp only [gPlus] at h
    cases eo : S[n]? with
    | none => simp only [eo] at h; exact h.elim
    | some o =>
      cases eo2 : S[m]? with
      | none => simp only [eo, eo2] at h; exact h.elim
      | some o2 =>
        have q1 := s.is eo hi
        have q2 := s.is eo2 hi2
        cases o with
        | lst xs =>
          cases o2 with
          | lst ys =>
            simp only [eo, eo2] at h
            obtain ⟨vs, hv, k⟩ := q1
            obtain ⟨ws, hw, k'⟩ := q2
            by_cases hz : xs.length + ys.length ≤ lim
            · rw [if_pos hz] at h
              exact .inr ⟨p, p2, vs, ws, rfl, rfl, hv, hw, by rw [k.length, k'.length]; exact lim_le hz, fun t ht => newL_fin s (k.app k') ht h⟩
            · rw [if_neg hz] at h; exact h.elim
  · have e : gPlus x y S = gAdd x y S := by
      unfold gPlus
      split
      · rename_i n m; exact absurd ⟨n, m, rfl, rfl⟩ hx
      · rfl
    rw [e] at h
    exact .inl (q io H S x y v w Q s rx ry h)
/-- the law's end: it tells True of the script -/
theorem law_end {K : PySem.W.Frag} {g : List Val → M Val} {H : Hp} {a : Addr} {ns : List Int} (h : ∃ S, g [.kl (ns.map Val.int)] [] = .ok (.bl true) S) (hO : Only H) (hS : SqL K H a (ns.map V.int)) :
    spI K g [.ref a] H (fun v _ => v = .bl true) fun _ _ _ => False := by
  obtain ⟨S, h⟩ := h
  have hF : SqF K H a (ns.map V.int) := by
    rcases hS with (hS | ⟨o, hS⟩) | hS
    · rcases hO a with z | ⟨o, xs, z⟩
      · rw [hS] at z; cases z
      · rw [hS] at z; cases z
    · exact .inl ⟨o, hS⟩
    · exact .inr hS
  refine ⟨[], [], [.kl (ns.map Val.int)], ⟨rfl, fun n m a h => by simp at h, fun n a o h => by simp at h⟩, ⟨_, [], rfl, ⟨a, _, rfl, hF, VRs.mapI ns⟩, rfl⟩, ?_⟩
  rw [h]
  intro io' H' v _ _ r
  exact r
end Mx

set_option linter.all false
set_option maxRecDepth 100000
set_option maxHeartbeats 4000000
namespace Mx
/-! ### what a run ends in: no exception, and Q of value and store -/
def Wp {α : Type} (o : Out α) (Q : α → Sto → Prop) : Prop := match o with
  | .ok a S => Q a S
  | _ => False
section
variable {α β : Type}
theorem wp_ok {a : α} {S : Sto} {Q : α → Sto → Prop} : Wp (.ok a S) Q = Q a S := rfl
theorem wp_bind {o : Out α} {f : α → M β} {Q : β → Sto → Prop} : Wp (o.bind f) Q = Wp o fun a S => Wp (f a S) Q := by cases o <;> rfl
theorem Wp.mono {o : Out α} {Q Q' : α → Sto → Prop} (h : Wp o Q) (k : ∀ a S, Q a S → Q' a S) : Wp o Q' := by
  cases o with
  | ok a S => exact k a S h
  | _ => exact h
theorem Wp.ex {o : Out α} {Q : α → Sto → Prop} (h : Wp o Q) : ∃ a S, o = .ok a S ∧ Q a S := by
  cases o with
  | ok a S => exact ⟨a, S, rfl, h⟩
  | _ => exact h.elim
theorem Wp.of {o : Out α} {Q : α → Sto → Prop} {a : α} {S : Sto} (e : o = .ok a S) (h : Q a S) : Wp o Q := by rw [e]; exact h
theorem wp_if {c : Prop} [Decidable c] {x y : Out α} {Q : α → Sto → Prop} (h1 : c → Wp x Q) (h2 : ¬c → Wp y Q) : Wp (if c then x else y) Q := by
  by_cases h : c
  · rw [if_pos h]; exact h1 h
  · rw [if_neg h]; exact h2 h
theorem wp_trm {g : List Val → M Val} {xs : List Val} {S : Sto} {Q : Val → Sto → Prop} (h : Wp (g xs S) Q)
    (k : ∀ v S1, Q v S1 → bel S.length v = true → (S1.take S.length).all (Ob.bel S.length) = true → Q v (S1.take S.length)) : Wp (trm g xs S) Q := by
  unfold trm
  cases e : g xs S with
  | ok v S1 =>
    rw [e] at h
    simp only
    by_cases hb : (bel S.length v && (S1.take S.length).all (Ob.bel S.length)) = true
    · rw [if_pos hb]
      rw [Bool.and_eq_true] at hb
      exact k v S1 h hb.1 hb.2
    · rw [if_neg hb]; exact h
  | err x S1 => rw [e] at h; exact h.elim
  | bad => rw [e] at h; exact h.elim
end

/-! ### the deck -/
structure Dk (S : Sto) (D C m : Nat) : Prop where
  ex : ∃ (k : Int) (cs : List Int), S[D]? = some (.lst [.loc C, .int k]) ∧ S[C]? = some (.lst (cs.map .int)) ∧ (∀ c ∈ cs, 0 ≤ c) ∧ D ≠ C ∧ 0 ≤ k ∧ k ≤ (m : Int)
theorem Dk.le {S : Sto} {D C m m' : Nat} (h : Dk S D C m) (l : m ≤ m') : Dk S D C m' := by
  obtain ⟨k, cs, h1, h2, h3, h4, h5, h6⟩ := h
  exact ⟨k, cs, h1, h2, h3, h4, h5, by omega⟩
/-- all but the deck is kept -/
structure Kp (S S' : Sto) (D C : Nat) : Prop where
  le : S.length ≤ S'.length
  get : ∀ n, n < S.length → n ≠ D → n ≠ C → S'[n]? = S[n]?
theorem Kp.refl {S : Sto} {D C : Nat} : Kp S S D C := ⟨Nat.le_refl _, fun _ _ _ _ => rfl⟩
theorem Kp.trans {S S1 S2 : Sto} {D C : Nat} (a : Kp S S1 D C) (b : Kp S1 S2 D C) : Kp S S2 D C := ⟨Nat.le_trans a.le b.le, fun n h d c => by rw [b.get n (Nat.lt_of_lt_of_le h a.le) d c, a.get n h d c]⟩
theorem get_lt {S : Sto} {n : Nat} {o : Ob} (h : S[n]? = some o) : n < S.length := (List.getElem?_eq_some_iff.mp h).1
theorem app_get {S T : Sto} {n : Nat} {o : Ob} (h : S[n]? = some o) : (S ++ T)[n]? = some o := by rw [List.getElem?_append_left (get_lt h)]; exact h
theorem app_new {S : Sto} {o : Ob} : (S ++ [o])[S.length]? = some o := by rw [List.getElem?_append_right (Nat.le_refl _), Nat.sub_self]; rfl
theorem Kp.app {S T : Sto} {D C : Nat} : Kp S (S ++ T) D C := ⟨by rw [List.length_append]; omega, fun n h _ _ => List.getElem?_append_left h⟩
theorem Kp.app2 {S S1 T : Sto} {D C : Nat} (h : Kp S S1 D C) : Kp S (S1 ++ T) D C := h.trans Kp.app
theorem Dk.app {S T : Sto} {D C m : Nat} (h : Dk S D C m) : Dk (S ++ T) D C m := by
  obtain ⟨k, cs, h1, h2, r⟩ := h.ex
  exact ⟨k, cs, app_get h1, app_get h2, r⟩
theorem Dk.ltD {S : Sto} {D C m : Nat} (h : Dk S D C m) : D < S.length := by
  obtain ⟨k, cs, h1, h2, r⟩ := h.ex; exact get_lt h1
theorem Dk.ltC {S : Sto} {D C m : Nat} (h : Dk S D C m) : C < S.length := by
  obtain ⟨k, cs, h1, h2, r⟩ := h.ex; exact get_lt h2
theorem Dk.take {S : Sto} {D C m n : Nat} (h : Dk S D C m) (d : D < n) (c : C < n) : Dk (S.take n) D C m := by
  obtain ⟨k, cs, h1, h2, r⟩ := h.ex
  exact ⟨k, cs, by rw [List.getElem?_take_of_lt d]; exact h1, by rw [List.getElem?_take_of_lt c]; exact h2, r⟩
theorem Kp.take {S S1 : Sto} {D C : Nat} (h : Kp S S1 D C) : Kp S (S1.take S.length) D C := ⟨by rw [List.length_take]; have := h.le; omega, fun n l d c => by rw [List.getElem?_take_of_lt l]; exact h.get n l d c⟩
/-- a call that plays with the deck: m is the bound of what was drawn when it ends; P of the value and the store -/
def Dw {α : Type} (o : Out α) (S : Sto) (D C m : Nat) (P : α → Sto → Prop) : Prop := Wp o fun v S' => Dk S' D C m ∧ Kp S S' D C ∧ P v S'
theorem dw_trm {g : List Val → M Val} {xs : List Val} {S : Sto} {D C m : Nat} {P : Val → Sto → Prop} (hd : D < S.length) (hc : C < S.length) (h : Dw (g xs S) S D C m P)
    (k : ∀ v S1, P v S1 → S.length ≤ S1.length → bel S.length v = true → (S1.take S.length).all (Ob.bel S.length) = true → P v (S1.take S.length)) : Dw (trm g xs S) S D C m P :=
  wp_trm h fun v S1 ⟨a, b, p⟩ e1 e2 => ⟨a.take hd hc, b.take, k v S1 p b.le e1 e2⟩
theorem Dw.mono {α : Type} {o : Out α} {S : Sto} {D C m m' : Nat} {P P' : α → Sto → Prop} (h : Dw o S D C m P) (l : m ≤ m') (k : ∀ v S', P v S' → P' v S') : Dw o S D C m' P' :=
  Wp.mono h fun v S' ⟨a, b, p⟩ => ⟨a.le l, b, k v S' p⟩

/-! ### draws -/
def drawB : SM :=
    (sSeq (sSub (mVar 0) (mC (.int 1)) (mOp gPlus (mOp gIx (mVar 0) (mC (.int 1))) (mC (.int 1))))
    (sSeq (sAsg (.name 2) (mC (.int 0)))
    (sSeq (sAsg (.name 3) (mUn gNeg (mC (.int 1))))
    (sSeq (sIf (mTst (gCmp fun i j => decide (j < i)) (mUn gLen (mOp gIx (mVar 0) (mC (.int 0)))) (mC (.int 0))) (sSeq (sAsg (.name 3) (mOp gMod (mOp gIx (mVar 0) (mC (.int 1))) (mUn gLen (mOp gIx (mVar 0) (mC (.int 0))))))
    (sAsg (.name 2) (mOp gIx (mOp gIx (mVar 0) (mC (.int 0))) (mVar 3)))) sNx)
    (sSeq (sIf (mTst (gCmp fun i j => decide (j ≤ i)) (mVar 2) (mOp gPow (mC (.int 10)) (mC (.int 18)))) (sSeq (sSub (mOp gIx (mVar 0) (mC (.int 0))) (mVar 3) (mOp gDiv (mVar 2) (mVar 1)))
    (sRet (mOp gMod (mVar 2) (mVar 1)))) sNx)
    (sRet (mOp gMod (mOp gMod (mOp gPow (mOp gPlus (mOp gPlus (mOp gMod (mVar 2) (mC (.int 2147483587))) (mOp gMul (mC (.int 7919)) (mOp gIx (mVar 0) (mC (.int 1))))) (mC (.int 1))) (mC (.int 5))) (mC (.int 2147483647))) (mVar 1))))))))
end Mx

set_option linter.all false
set_option maxRecDepth 100000
set_option maxHeartbeats 4000000
namespace Mx
open L2
theorem set_get_self {S : Sto} {n : Nat} {o o2 : Ob} (h : S[n]? = some o) : (S.set n o2)[n]? = some o2 := List.getElem?_set_self (get_lt h)
theorem set_get_ne {S : Sto} {n m : Nat} {o o2 : Ob} (h : S[n]? = some o) (d : m ≠ n) : (S.set m o2)[n]? = some o := by rw [List.getElem?_set_ne d]; exact h
theorem atI_nat {α : Type} {xs : List α} {i : Int} (h0 : 0 ≤ i) (h : i < xs.length) : ∃ x, atI xs i = some x ∧ xs[i.toNat]? = some x ∧ ixN xs.length i = some i.toNat := by
  have hl : i.toNat < xs.length := by omega
  refine ⟨xs[i.toNat], ?_, List.getElem?_eq_getElem hl, ?_⟩
  · unfold atI ixN
    rw [if_pos h0, if_pos h]
    exact List.getElem?_eq_getElem hl
  · unfold ixN
    rw [if_pos h0, if_pos h]
theorem set_map {cs : List Int} {q : Nat} {c : Int} : (cs.map Val.int).set q (.int c) = (cs.set q c).map Val.int := by rw [List.map_set]
theorem draw_run {S : Sto} {D C m : Nat} {many : Int} (h : Dk S D C m) (hm : m < 2 ^ 40) (h0 : 0 < many) (h1 : many < 2 ^ 40) :
    Dw (runF 2 4 drawB [.loc D, .int many] S) S D C (m + 1) fun v _ => ∃ i : Int, v = .int i ∧ 0 ≤ i ∧ i < many := by
  obtain ⟨k, cs, hD, hC, hp, hn, hk, hkm⟩ := h.ex
  have hD1 : (S.set D (.lst [.loc C, .int (k + 1)]))[D]? = some (.lst [.loc C, .int (k + 1)]) := set_get_self hD
  have hC1 : (S.set D (.lst [.loc C, .int (k + 1)]))[C]? = some (.lst (cs.map .int)) := set_get_ne hC hn
  have hk1 : Kp S (S.set D (.lst [.loc C, .int (k + 1)])) D C := ⟨by rw [List.length_set]; exact Nat.le_refl _, fun n _ d c => List.getElem?_set_ne (Ne.symm d)⟩
  have hd1 : Dk (S.set D (.lst [.loc C, .int (k + 1)])) D C (m + 1) := ⟨k + 1, cs, hD1, hC1, hp, hn, by omega, by omega⟩
  have pow18 : ((10 : Int) ^ (18 : Int).toNat) = 1000000000000000000 := by decide +kernel
  have a0 : ∀ x y : Val, atI [x, y] 0 = some x := fun _ _ => rfl
  have a1 : ∀ x y : Val, atI [x, y] 1 = some y := fun _ _ => rfl
  have i1 : ixN 2 1 = some 1 := rfl
  have hman : many.natAbs < 18446744073709551616 := by omega
  unfold Dw
  by_cases hl : 0 < cs.length
  · have hlI : (0 : Int) < (cs.length : Int) := by omega
    have e0 : 0 ≤ (k + 1) % (cs.length : Int) := Int.emod_nonneg _ (by omega)
    have e1 : (k + 1) % (cs.length : Int) < cs.length := Int.emod_lt_of_pos _ hlI
    obtain ⟨c, c1, c2, c3⟩ := atI_nat (xs := cs) e0 e1
    have c1' : atI (cs.map Val.int) ((k + 1) % (cs.length : Int)) = some (.int c) := by
      obtain ⟨x, x1, x2, x3⟩ := atI_nat (xs := cs.map Val.int) e0 (by rw [List.length_map]; exact e1)
      rw [List.getElem?_map, c2] at x2
      rw [x1, ← x2]; rfl
    have hc0 : 0 ≤ c := hp c (List.mem_of_getElem? c2)
    by_cases hb : (1000000000000000000 : Int) ≤ c
    · have hm2 : ∀ x : Int, 0 ≤ x → 0 ≤ x / many := fun x hx => Int.ediv_nonneg hx (by omega)
      have hS2 : Dk ((S.set D (.lst [.loc C, .int (k + 1)])).set C (.lst ((cs.map Val.int).set ((k + 1) % (cs.length : Int)).toNat (.int (c / many))))) D C (m + 1) := by
        refine ⟨k + 1, cs.set ((k + 1) % (cs.length : Int)).toNat (c / many), set_get_ne hD1 (Ne.symm hn), ?_, ?_, hn, by omega, by omega⟩
        · rw [set_map]; exact set_get_self hC1
        · intro z hz
          rcases List.mem_or_eq_of_mem_set hz with hz | rfl
          · exact hp z hz
          · exact hm2 c hc0
      have hK2 : Kp S ((S.set D (.lst [.loc C, .int (k + 1)])).set C (.lst ((cs.map Val.int).set ((k + 1) % (cs.length : Int)).toNat (.int (c / many))))) D C :=
        ⟨by rw [List.length_set, List.length_set]; exact Nat.le_refl _, fun n a d e => by rw [List.getElem?_set_ne (Ne.symm e), List.getElem?_set_ne (Ne.symm d)]⟩
      have hr : runF 2 4 drawB [.loc D, .int many] S = .ok (.int (c % many)) ((S.set D (.lst [.loc C, .int (k + 1)])).set C (.lst ((cs.map Val.int).set ((k + 1) % (cs.length : Int)).toNat (.int (c / many))))) := by
        simp [runF, drawB, sSeq, sSub, sAsg, sIf, sRet, mOp, mVar, mC, mUn, mTst, gIx, gPlus, gAdd, gLen, gCmp, gNeg, gMod, gPow, gDiv, Out.bind, tgM, hD, hD1, hC1, a0, a1, i1, hl, hlI, c1', c3, hb, h0, pow18, List.length_map, hman]
      exact Wp.of hr ⟨hS2, hK2, _, rfl, Int.emod_nonneg _ (by omega), Int.emod_lt_of_pos _ h0⟩
    · have hr : ∃ z : Int, runF 2 4 drawB [.loc D, .int many] S = .ok (.int (z % many)) (S.set D (.lst [.loc C, .int (k + 1)])) := by
        have hq : (c % 2147483587 + 7919 * (k + 1) + 1).natAbs < 18446744073709551616 := by omega
        simp [runF, drawB, sSeq, sSub, sAsg, sIf, sRet, sNx, mOp, mVar, mC, mUn, mTst, gIx, gPlus, gAdd, gLen, gCmp, gNeg, gMod, gPow, gMul, gDiv, Out.bind, tgM, hD, hD1, hC1, a0, a1, i1, hl, hlI, c1', c3, hb, h0, pow18, List.length_map, hq]
        exact ⟨_, rfl⟩
      obtain ⟨z, hr⟩ := hr
      exact Wp.of hr ⟨hd1, hk1, _, rfl, Int.emod_nonneg _ (by omega), Int.emod_lt_of_pos _ h0⟩
  · have hl0 : cs = [] := List.length_eq_zero_iff.mp (by omega)
    subst hl0
    have hr : ∃ z : Int, runF 2 4 drawB [.loc D, .int many] S = .ok (.int (z % many)) (S.set D (.lst [.loc C, .int (k + 1)])) := by
      have hq : (7919 * (k + 1) + 1).natAbs < 18446744073709551616 := by omega
      simp [runF, drawB, sSeq, sSub, sAsg, sIf, sRet, sNx, mOp, mVar, mC, mUn, mTst, gIx, gPlus, gAdd, gLen, gCmp, gNeg, gMod, gPow, gMul, gDiv, Out.bind, tgM, hD, hD1, hC1, a0, a1, i1, h0, pow18, List.length_map, hq]
      exact ⟨_, rfl⟩
    obtain ⟨z, hr⟩ := hr
    exact Wp.of hr ⟨hd1, hk1, _, rfl, Int.emod_nonneg _ (by omega), Int.emod_lt_of_pos _ h0⟩
theorem draw_ok {S : Sto} {D C m : Nat} {many : Int} (h : Dk S D C m) (hm : m < 2 ^ 40) (h0 : 0 < many) (h1 : many < 2 ^ 40) :
    Dw (trm (runF 2 4 drawB) [.loc D, .int many] S) S D C (m + 1) fun v _ => ∃ i : Int, v = .int i ∧ 0 ≤ i ∧ i < many :=
  dw_trm h.ltD h.ltC (draw_run h hm h0 h1) fun _ _ p _ _ _ => p
end Mx

set_option linter.all false
set_option maxRecDepth 100000
set_option maxHeartbeats 4000000
namespace Mx
open L2
/-! ### comprehensions and loops, by what holds at each step -/
theorem compI_inv {src : Src} {tg : Tg} {t : Ev → M Bool} {e : Ev → M Val} {env0 : Ev} {xs : List Val} (I : Nat → List Val → Sto → Prop)
    (hi : ∀ i acc S, I i acc S → i < xs.length → src.item S i = xs[i]?) (hf : ∀ acc S, I xs.length acc S → src.fin S = true)
    (step : ∀ i x acc S, xs[i]? = some x → I i acc S → ∃ env2, tgM tg x env0 = some env2 ∧ Wp (t env2 S) fun b S2 => if b = true then Wp (e env2 S2) (fun y S' => acc.length < lim ∧ I (i + 1) (acc ++ [y]) S') else I (i + 1) acc S2) :
    ∀ (r i : Nat) (acc : List Val) (S : Sto), i + r = xs.length → I i acc S → Wp (compI src tg t e env0 r i acc S) fun ys S' => I xs.length ys S'
  | 0, i, acc, S, h, hI => by
    have e : i = xs.length := by omega
    subst e
    unfold compI
    rw [if_pos (hf acc S hI)]
    exact hI
  | r + 1, i, acc, S, h, hI => by
    have hl : i < xs.length := by omega
    have hx : xs[i]? = some xs[i] := List.getElem?_eq_getElem hl
    unfold compI
    rw [hi i acc S hI hl, hx]
    obtain ⟨env2, h1, h2⟩ := step i _ acc S hx hI
    simp only [h1, wp_bind]
    refine Wp.mono h2 fun b S2 h3 => ?_
    by_cases hb : b = true
    · rw [if_pos hb] at h3 ⊢
      rw [wp_bind]
      refine Wp.mono h3 fun y S' ⟨h4, h5⟩ => ?_
      rw [if_pos h4]
      exact compI_inv I hi hf step r (i + 1) _ _ (by omega) h5
    · rw [if_neg hb] at h3 ⊢
      exact compI_inv I hi hf step r (i + 1) _ _ (by omega) h3
/-- one that changes nothing -/
theorem compI_pure {src : Src} {tg : Tg} {t : Ev → M Bool} {e : Ev → M Val} {env0 : Ev} {xs : List Val} {S : Sto} (b : Val → Bool) (f : Val → Val)
    (hi : ∀ i, i < xs.length → src.item S i = xs[i]?) (hf : src.fin S = true)
    (step : ∀ x, x ∈ xs → ∃ env2, tgM tg x env0 = some env2 ∧ t env2 S = .ok (b x) S ∧ (b x = true → e env2 S = .ok (f x) S)) :
    ∀ (r i : Nat) (acc : List Val), i + r = xs.length → acc.length + r ≤ lim → compI src tg t e env0 r i acc S = .ok (acc ++ ((xs.drop i).filter b).map f) S
  | 0, i, acc, h, _ => by
    have e : xs.drop i = [] := List.drop_eq_nil_of_le (by omega)
    unfold compI
    rw [if_pos hf, e]
    simp
  | r + 1, i, acc, h, hl => by
    have hl1 : i < xs.length := by omega
    have hx : xs[i]? = some xs[i] := List.getElem?_eq_getElem hl1
    obtain ⟨env2, h1, h2, h3⟩ := step xs[i] (List.getElem_mem hl1)
    unfold compI
    rw [hi i hl1, hx]
    simp only [h1, h2, Out.bind]
    rw [List.drop_eq_getElem_cons hl1, List.filter_cons]
    by_cases hb : b xs[i] = true
    · rw [if_pos hb, if_pos hb, h3 hb]
      simp only
      rw [if_pos (by omega), compI_pure b f hi hf step r (i + 1) _ (by omega) (by rw [List.length_append]; simp; omega)]
      simp
    · rw [if_neg hb, if_neg hb, compI_pure b f hi hf step r (i + 1) _ (by omega) (by omega)]
theorem forI_inv {src : Src} {tg : Tg} {b : SM} {xs : List Val} (I : Nat → Ev → Sto → Prop) (R : Fl × Ev → Sto → Prop)
    (hi : ∀ i env S, I i env S → i < xs.length → src.item S i = xs[i]?) (hf : ∀ env S, I xs.length env S → src.fin S = true ∧ R (.nx, env) S)
    (step : ∀ i x env S, xs[i]? = some x → I i env S → ∃ env2, tgM tg x env = some env2 ∧ Wp (b env2 S) fun q S' => match q with
      | (.nx, e) => I (i + 1) e S' | (.ct, e) => I (i + 1) e S' | (.bk, e) => R (.nx, e) S' | (.rt x, e) => R (.rt x, e) S') :
    ∀ (r i : Nat) (env : Ev) (S : Sto), i + r = xs.length → I i env S → Wp (forI src tg b r i env S) R
  | 0, i, env, S, h, hI => by
    have e : i = xs.length := by omega
    subst e
    unfold forI
    rw [if_pos (hf env S hI).1]
    exact (hf env S hI).2
  | r + 1, i, env, S, h, hI => by
    have hl : i < xs.length := by omega
    have hx : xs[i]? = some xs[i] := List.getElem?_eq_getElem hl
    unfold forI
    rw [hi i env S hI hl, hx]
    obtain ⟨env2, h1, h2⟩ := step i _ env S hx hI
    simp only [h1, wp_bind]
    refine Wp.mono h2 fun q S2 h3 => ?_
    obtain ⟨q, e⟩ := q
    cases q with
    | nx => exact forI_inv I R hi hf step r (i + 1) _ _ (by omega) h3
    | ct => exact forI_inv I R hi hf step r (i + 1) _ _ (by omega) h3
    | bk => exact h3
    | rt x => exact h3
/-- while, by a measure -/
theorem whileI_inv {t : Ev → M Bool} {b : SM} (I : Nat → Ev → Sto → Prop) (R : Fl × Ev → Sto → Prop)
    (step : ∀ n env S, I n env S → Wp (t env S) fun c S1 => if c = true then Wp (b env S1) (fun q S' => match q with
      | (.nx, e) => ∃ n', n' < n ∧ I n' e S' | (.ct, e) => ∃ n', n' < n ∧ I n' e S' | (.bk, e) => R (.nx, e) S' | (.rt x, e) => R (.rt x, e) S') else R (.nx, env) S1) :
    ∀ (m n : Nat) (env : Ev) (S : Sto), n < m → I n env S → Wp (whileI t b m env S) R
  | 0, n, env, S, h, hI => absurd h (Nat.not_lt_zero _)
  | m + 1, n, env, S, h, hI => by
    unfold whileI
    rw [wp_bind]
    refine Wp.mono (step n env S hI) fun c S1 h1 => ?_
    by_cases hc : c = true
    · rw [if_pos hc] at h1 ⊢
      rw [wp_bind]
      refine Wp.mono h1 fun q S2 h3 => ?_
      obtain ⟨q, e⟩ := q
      cases q with
      | nx => obtain ⟨n', l, k⟩ := h3; exact whileI_inv I R step m n' _ _ (by omega) k
      | ct => obtain ⟨n', l, k⟩ := h3; exact whileI_inv I R step m n' _ _ (by omega) k
      | bk => exact h3
      | rt x => exact h3
    · rw [if_neg hc] at h1 ⊢; exact h1
theorem item_vals {xs : List Val} {S : Sto} {i : Nat} : (Src.vals xs).item S i = xs[i]? := rfl
theorem item_live {xs : List Val} {S : Sto} {n i : Nat} (h : S[n]? = some (.lst xs)) : (Src.live n xs.length).item S i = xs[i]? := by
  simp [Src.item, h]
theorem fin_live {xs : List Val} {S : Sto} {n : Nat} (h : S[n]? = some (.lst xs)) : (Src.live n xs.length).fin S = true := by
  simp [Src.fin, h]
/-! ### the deck, laid -/
def deckB : SM := (sRet (mNew (mLst (mCons (mNew (mLc (mSrc (mSl (mVar 0) mNoPart (mPart (mC (.int 63))))) (.name 1) mYes (mUn gAbs (mVar 1)) [1])) (mCons (mC (.int 0)) mNil)))))
theorem deck_ok {ns : List Int} (h : ns.length ≤ 63) : ∃ S, trm (runF 1 2 deckB) [.kl (ns.map Val.int)] [] = .ok (.loc 2) S ∧ Dk S 2 1 0 ∧ S.length = 3 := by
  obtain ⟨xs, hx⟩ : ∃ xs, xs = cut (ns.map Val.int) none (some 63) := ⟨_, rfl⟩
  have hsub : ∀ x ∈ xs, ∃ i : Int, x = .int i := by
    intro x hm
    rw [hx] at hm
    have := List.mem_of_mem_drop (List.mem_of_mem_take hm)
    obtain ⟨i, _, rfl⟩ := List.mem_map.mp this
    exact ⟨i, rfl⟩
  have hlen : xs.length ≤ 63 := by
    rw [hx, cut, List.length_take, List.length_drop, List.length_map]
    omega
  have hc : compI (.live 0 xs.length) (.name 1) mYes (mUn gAbs (mVar 1)) [some (.kl (ns.map Val.int)), none] xs.length 0 [] [.lst xs]
      = .ok (xs.map fun x => match x with | .int i => .int (if i < 0 then -i else i) | x => x) [.lst xs] := by
    rw [compI_pure (xs := xs) (fun _ => true) (fun x => match x with | .int i => .int (if i < 0 then -i else i) | x => x) (fun i _ => item_live rfl) (fin_live rfl) (fun x hm => ?_) _ _ _ (by omega) (by simp only [List.length_nil, lim]; omega)]
    · rw [List.drop_zero, List.nil_append, List.filter_eq_self.mpr (fun _ _ => rfl)]
    · obtain ⟨i, rfl⟩ := hsub x hm
      exact ⟨_, rfl, rfl, fun _ => rfl⟩
  refine ⟨[.lst xs, .lst (xs.map fun x => match x with | .int i => .int (if i < 0 then -i else i) | x => x), .lst [.loc 1, .int 0]], ?_, ?_, rfl⟩
  · have hr : runF 1 2 deckB [.kl (ns.map Val.int)] [] = .ok (.loc 2) [.lst xs, .lst (xs.map fun x => match x with | .int i => .int (if i < 0 then -i else i) | x => x), .lst [.loc 1, .int 0]] := by
      simp only [runF, deckB, sRet, mNew, mLst, mCons, mLc, mSrc, mSl, mVar, mC, mNoPart, mPart, mNil, Out.bind, gSl, List.length_cons, List.length_nil, List.map_cons, List.map_nil, List.cons_append, List.nil_append, List.getElem?_cons_zero, ← hx, srcOf, wip, Src.size, List.replicate, List.append_nil, ite_true, Nat.zero_add, Nat.reduceSub, Nat.reduceAdd, List.set_cons_succ, List.set_cons_zero, hc, lim, Nat.reduceLeDiff]
    unfold trm
    rw [hr]
    rfl
  · refine ⟨0, xs.map (fun x => match x with | .int i => (if i < 0 then -i else i) | _ => 0), rfl, ?_, ?_, by decide, by decide, by decide⟩
    · show some _ = some _
      rw [List.map_map]
      congr 2
      refine List.map_congr_left fun x hm => ?_
      obtain ⟨i, rfl⟩ := hsub x hm
      rfl
    · intro c hm
      obtain ⟨x, hm2, rfl⟩ := List.mem_map.mp hm
      obtain ⟨i, rfl⟩ := hsub x hm2
      show 0 ≤ (if i < 0 then -i else i)
      split <;> omega
end Mx

set_option linter.all false
set_option maxRecDepth 100000
set_option maxHeartbeats 4000000
namespace Mx
open L2
structure DrS (g : List Val → M Val) : Prop where
  run : ∀ {S : Sto} {D C m : Nat} {many : Int}, Dk S D C m → m < 2 ^ 40 → 0 < many → many < 2 ^ 40 → Dw (g [.loc D, .int many] S) S D C (m + 1) fun v _ => ∃ i : Int, v = .int i ∧ 0 ≤ i ∧ i < many
theorem draw_S : DrS (trm (runF 2 4 drawB)) := ⟨draw_ok⟩
theorem DrS.go {g : List Val → M Val} (h : DrS g) {S : Sto} {D C m : Nat} {many : Int} {Q : Val → Sto → Prop} (d : Dk S D C m) (hm : m < 2 ^ 40) (h0 : 0 < many) (h1 : many < 2 ^ 40)
    (k : ∀ (i : Int) S', 0 ≤ i → i < many → Dk S' D C (m + 1) → Kp S S' D C → Q (.int i) S') : Wp (g [.loc D, .int many] S) Q :=
  Wp.mono (h.run d hm h0 h1) fun v S' ⟨a, b, i, e, c1, c2⟩ => by rw [e]; exact k i S' c1 c2 a b
theorem asStrs_chr : ∀ w : List Nat, asStrs (w.map fun c => Val.str [c]) = some (w.map fun c => [c])
  | [] => rfl
  | c :: w => by rw [List.map_cons, List.map_cons, asStrs, asStrs_chr w]; rfl
theorem joinL_nil : ∀ w : List (List Nat), TL.joinL [] w = w.flatten
  | [] => rfl
  | [p] => by simp [TL.joinL]
  | p :: q :: r => by
    rw [TL.joinL, joinL_nil (q :: r)]
    simp
theorem flat_chr : ∀ w : List Nat, (w.map fun c => [c]).flatten = w
  | [] => rfl
  | c :: w => by rw [List.map_cons, List.flatten_cons, flat_chr w]; rfl
theorem join_chr {w : List Nat} {S : Sto} (h : w.length ≤ lim) : lJoin [] (w.map fun c => Val.str [c]) S = .ok (.str w) S := by
  unfold lJoin
  rw [asStrs_chr]
  simp only
  have e : ∀ w : List Nat, (((w.map fun c => [c]).map List.length).sum) = w.length := by
    intro w
    induction w with
    | nil => rfl
    | cons c w ih => simp only [List.map_cons, List.sum_cons, List.length_cons, List.length_nil] at ih ⊢; omega
  rw [if_pos (by rw [e]; simp only [List.length_nil, Nat.mul_zero, Nat.add_zero]; exact h), joinL_nil, flat_chr]
theorem upTo_len {lo : Int} {n : Nat} : (upTo lo n).length = n := by rw [upTo, List.length_map, List.length_range]
/-- signs drawn from a text, joined -/
theorem draws_chr {g : List Val → M Val} (hg : DrS g) {z : List Nat} {k : Int} {env : Ev} {D C m n j : Nat} {S : Sto} (hz : (z.length : Int) = k) (hz1 : z.length ≤ lim) (hk : 0 < k) (he : env[0]? = some (some (.loc D))) (hj : 0 < j)
    (hd : Dk S D C m) (hm : m + n ≤ 2 ^ 40) (hn : n ≤ lim) :
    Wp (compI (.vals (upTo 0 n)) (.name j) mYes (mOp gIx (mC (.str z)) (mCall g (mCons (mVar 0) (mCons (mC (.int k)) mNil)))) env n 0 [] S)
      fun ys S' => Dk S' D C (m + n) ∧ Kp S S' D C ∧ ∃ w : List Nat, ys = w.map (fun c => Val.str [c]) ∧ w.length = n ∧ ∀ c ∈ w, c ∈ z := by
  have hl : (upTo 0 n).length = n := upTo_len
  refine Wp.mono (compI_inv (xs := upTo 0 n) (fun i ys S' => Dk S' D C (m + i) ∧ Kp S S' D C ∧ ∃ w : List Nat, ys = w.map (fun c => Val.str [c]) ∧ w.length = i ∧ ∀ c ∈ w, c ∈ z) (fun _ _ _ _ _ => rfl) (fun _ _ _ => rfl) (fun i x acc S1 hx hI => ?_) n 0 [] S (by omega) ⟨hd, Kp.refl, [], rfl, rfl, fun _ h => by cases h⟩) fun ys S' h => by rw [hl] at h; exact h
  obtain ⟨d1, k1, w, rfl, w1, w2⟩ := hI
  have hi : i < n := by rw [← hl]; exact (List.getElem?_eq_some_iff.mp hx).1
  have he2 : (env.set j (some x))[0]? = some (some (.loc D)) := by rw [List.getElem?_set_ne (by omega)]; exact he
  refine ⟨env.set j (some x), rfl, ?_⟩
  simp only [mYes, wp_ok, if_true, mOp, mC, mCall, mCons, mVar, mNil, he2, wp_bind]
  refine hg.go d1 (by omega) hk (by have : lim = 100000 := rfl; omega) fun v S2 h0 h1 d2 k2 => ?_
  obtain ⟨c, c1, c2, c3⟩ := atI_nat (xs := z) h0 (by omega)
  simp only [gIx, hz1, if_true, c1, wp_ok]
  refine ⟨by rw [List.length_map, w1]; omega, d2, k1.trans k2, w ++ [c], by simp, by simp [w1], fun y hy => ?_⟩
  rcases List.mem_append.mp hy with hy | hy
  · exact w2 y hy
  · rw [List.mem_singleton.mp hy]; exact List.mem_of_getElem? c2
/-- isinstance, of values whose sort is known -/
def Okv (v : Val) (S : Sto) : Prop := match v with
  | .str z => z.length ≤ lim
  | .loc n => n < S.length
  | .ext _ => False
  | _ => True
theorem Okv.le {v : Val} {S S' : Sto} (h : Okv v S) (l : S.length ≤ S'.length) : Okv v S' := by
  cases v with
  | loc n => exact Nat.lt_of_lt_of_le h l
  | _ => exact h
theorem Okv.ty {v : Val} {S : Sto} (h : Okv v S) : ∃ t, tyOf v S = some t ∧ (t = "str" ↔ ∃ z, v = .str z) := by
  cases v with
  | loc n =>
    refine ⟨"list", ?_, by simp⟩
    have : S[n]? = some (S[n]'h) := List.getElem?_eq_getElem h
    simp [tyOf, this]
  | ext a => exact h.elim
  | non => exact ⟨"NoneType", rfl, by simp⟩
  | bl b => exact ⟨"bool", rfl, by simp⟩
  | int b => exact ⟨"int", rfl, by simp⟩
  | str b => exact ⟨"str", rfl, by simp⟩
  | tup b => exact ⟨"tuple", rfl, by simp⟩
  | kl b => exact ⟨"list", rfl, by simp⟩
theorem Okv.trm {v : Val} {S1 : Sto} {n : Nat} (h : Okv v S1) (l : n ≤ S1.length) (b : bel n v = true) : Okv v (S1.take n) := by
  cases v with
  | loc k =>
    show k < (S1.take n).length
    rw [List.length_take]
    have : k < n := of_decide_eq_true b
    omega
  | _ => exact h
end Mx

set_option linter.all false
set_option maxRecDepth 100000
set_option maxHeartbeats 4000000
namespace Mx
open L2 PySem
theorem lim_v : lim = 100000 := rfl
theorem eqv_bl (a b : Bool) : PyData.eqv (.bool a) (.bool b) = (a == b) := by simp only [PyData.eqv]
theorem eqv_int (a b : Int) : PyData.eqv (.int a) (.int b) = (a == b) := by simp only [PyData.eqv]
theorem datE_bl (b : Bool) (S : Sto) : datE (.bl b) S = some (.bool b) := rfl
theorem datE_int (b : Int) (S : Sto) : datE (.int b) S = some (.int b) := rfl
theorem datE_str (b : List Nat) (S : Sto) : datE (.str b) S = some (.str ⟨b.toArray⟩) := rfl
theorem dep_bl (a b : Bool) : min (PyData.depth (.bool a)) (PyData.depth (.bool b)) ≤ 64 := by simp only [PyData.depth]; omega
theorem dep_int (a b : Int) : min (PyData.depth (.int a)) (PyData.depth (.int b)) ≤ 64 := by simp only [PyData.depth]; omega
/-- == of two truths, of two numbers -/
theorem eq_bl {neg : Bool} {a b : Ev → M Val} {env : Ev} {S S1 S2 : Sto} {x y : Bool} (h1 : a env S = .ok (.bl x) S1) (h2 : b env S1 = .ok (.bl y) S2) : mEq neg datE datE a b env S = .ok (if neg = true then !(x == y) else x == y) S2 := by
  unfold mEq
  simp only [h1, h2, Out.bind, datE_bl, dep_bl, if_true, eqv_bl]
theorem eq_int {neg : Bool} {a b : Ev → M Val} {env : Ev} {S S1 S2 : Sto} {x y : Int} (h1 : a env S = .ok (.int x) S1) (h2 : b env S1 = .ok (.int y) S2) : mEq neg datE datE a b env S = .ok (if neg = true then !(x == y) else x == y) S2 := by
  unfold mEq
  simp only [h1, h2, Out.bind, datE_int, dep_int, if_true, eqv_int]
theorem dat_chr (f : Nat → Option PyData) : ∀ w : List Nat, datVs f (w.map fun c => Val.str [c]) = some (w.map fun c => PyData.str ⟨#[c]⟩)
  | [] => rfl
  | c :: w => by
    rw [List.map_cons, datVs, dat_chr f w]
    rfl
/-- a list's being [] -/
theorem eq_nil {neg : Bool} {ys : List Val} {ds : List PyData} {a : Ev → M (List Val)} {env : Ev} {S S1 : Sto} (h1 : a env S = .ok ys S1) (hd : datL ys S1 = some (.list ds)) : mEq neg datL datL a (mLst mNil) env S = .ok (if neg = true then !ds.isEmpty else ds.isEmpty) S1 := by
  unfold mEq
  have e : datL [] S1 = some (.list []) := rfl
  simp only [h1, Out.bind, mLst, mNil, List.length_nil, Nat.zero_le, if_true, hd, e]
  have d : min (PyData.depth (.list ds)) (PyData.depth (.list [])) ≤ 64 := by
    have : PyData.depth (.list []) ≤ 64 := by simp [PyData.depth, PyData.depthAll]
    omega
  rw [if_pos d]
  cases ds <;> simp [PyData.eqv, PyData.eqvAll]
theorem cut_len {α : Type} (xs : List α) (lo hi : Option Int) : (cut xs lo hi).length ≤ xs.length := by
  rw [cut, List.length_take, List.length_drop]; omega
theorem flat_len {α : Type} (n : Nat) (x : List α) : (List.replicate n x).flatten.length = n * x.length := by
  induction n with
  | zero => simp
  | succ n ih => rw [List.replicate_succ, List.flatten_cons, List.length_append, ih, Nat.succ_mul]; omega
theorem trm_pure {g : List Val → M Val} {xs : List Val} {S : Sto} {v : Val} (h : g xs S = .ok v S) : trm g xs S = .ok v S := by
  unfold trm
  rw [h]
  simp only [List.take_length]
  split <;> rfl
theorem wip_len (env : Ev) : ∀ l, (wip env l).length = env.length
  | [] => rfl
  | i :: r => by rw [wip, List.length_set, wip_len env r]
theorem app_at {S T : Sto} {k : Nat} : (S ++ T)[S.length + k]? = T[k]? := by rw [List.getElem?_append_right (by omega)]; congr 1; omega
theorem app_at0 {S T : Sto} : (S ++ T)[S.length]? = T[0]? := app_at (k := 0)
theorem app_set {S T : Sto} {k : Nat} {o : Ob} : (S ++ T).set (S.length + k) o = S ++ T.set k o := by rw [List.set_append_right _ _ (by omega)]; congr 2; omega
theorem app_set0 {S T : Sto} {o : Ob} : (S ++ T).set S.length o = S ++ T.set 0 o := app_set (k := 0)
end Mx

set_option linter.all false
set_option maxRecDepth 100000
namespace Mx.K01
open Mx
def b_is_text (F : Nat → List Val → M Val) : SM :=
    (sRet (mAndV (mIsi "str" (mVar 0)) (mAndV (mBl (mTst (gCmp fun i j => decide (i ≤ j)) (mUn gLen (mVar 0)) (mC (.int 200)))) (mLi asL lAll (mLc (mSrc (mVar 0)) (.name 1) mYes (mBl (mTst (gIn false) (mVar 1) (mC (.str (cs " abcdefghijklmnopqrstuvwxyz"))))) [1])))))
def b_is_name (F : Nat → List Val → M Val) : SM :=
    (sRet (mAndV (mIsi "str" (mVar 0)) (mAndV (mBl (mChn (gCmp fun i j => decide (i ≤ j)) (gCmp fun i j => decide (i ≤ j)) (mC (.int 1)) (mUn gLen (mVar 0)) (mC (.int 8)))) (mLi asL lAll (mLc (mSrc (mVar 0)) (.name 1) mYes (mBl (mTst (gIn false) (mVar 1) (mC (.str (cs "abcdefghijklmnopqrstuvwxyz"))))) [1])))))
def b__law_deck (F : Nat → List Val → M Val) : SM :=
    (sRet (mNew (mLst (mCons (mNew (mLc (mSrc (mSl (mVar 0) mNoPart (mPart (mC (.int 63))))) (.name 1) mYes (mUn gAbs (mVar 1)) [1])) (mCons (mC (.int 0)) mNil)))))
def b__law_draw (F : Nat → List Val → M Val) : SM :=
    (sSeq (sSub (mVar 0) (mC (.int 1)) (mOp gPlus (mOp gIx (mVar 0) (mC (.int 1))) (mC (.int 1))))
    (sSeq (sAsg (.name 2) (mC (.int 0)))
    (sSeq (sAsg (.name 3) (mUn gNeg (mC (.int 1))))
    (sSeq (sIf (mTst (gCmp fun i j => decide (j < i)) (mUn gLen (mOp gIx (mVar 0) (mC (.int 0)))) (mC (.int 0))) (sSeq (sAsg (.name 3) (mOp gMod (mOp gIx (mVar 0) (mC (.int 1))) (mUn gLen (mOp gIx (mVar 0) (mC (.int 0))))))
    (sAsg (.name 2) (mOp gIx (mOp gIx (mVar 0) (mC (.int 0))) (mVar 3)))) sNx)
    (sSeq (sIf (mTst (gCmp fun i j => decide (j ≤ i)) (mVar 2) (mOp gPow (mC (.int 10)) (mC (.int 18)))) (sSeq (sSub (mOp gIx (mVar 0) (mC (.int 0))) (mVar 3) (mOp gDiv (mVar 2) (mVar 1)))
    (sRet (mOp gMod (mVar 2) (mVar 1)))) sNx)
    (sRet (mOp gMod (mOp gMod (mOp gPow (mOp gPlus (mOp gPlus (mOp gMod (mVar 2) (mC (.int 2147483587))) (mOp gMul (mC (.int 7919)) (mOp gIx (mVar 0) (mC (.int 1))))) (mC (.int 1))) (mC (.int 5))) (mC (.int 2147483647))) (mVar 1))))))))
def b__law_letters (F : Nat → List Val → M Val) : SM :=
    (sRet (mJoin asL (mC (.str (cs ""))) (mLc (mRng1 (mVar 1)) (.name 2) mYes (mOp gIx (mC (.str (cs "abcdefghijklmnopqrstuvwxyz"))) (mCall (F 3) (mCons (mVar 0) (mCons (mC (.int 26)) mNil)))) [2])))
def b__law_odd (F : Nat → List Val → M Val) : SM :=
    (sSeq (sAsg (.name 1) (mNew (mLst (mCons (mC .non) (mCons (mC (.bl true)) (mCons (mC (.bl false)) (mCons (mC (.int 0)) (mCons (mC (.int 1)) (mCons (mC (.int 2)) (mCons (mUn gNeg (mC (.int 1))) (mCons (mOp gPow (mC (.int 10)) (mC (.int 30))) (mCons (mC (.str (cs ""))) (mCons (mC (.str (cs " "))) (mCons (mC (.str (cs "a"))) (mCons (mC (.str (cs "sign"))) (mCons (mC (.str (cs "row"))) (mCons (mC (.str (cs "any"))) (mCons (mC (.str (cs "some"))) (mCons (mC (.str (cs "mark"))) (mCons (mC (.str (cs "A"))) mNil))))))))))))))))))))
    (sSeq (sAsg (.name 1) (mNew (mCat asE asL (mVar 1) (mLst (mCons (mC (.str (cs "ab"))) (mCons (mC (.str (cs "ba"))) (mCons (mC (.str (cs "aa"))) (mCons (mC (.str (cs "a1"))) (mCons (mC (.str (cs "abcdefgh"))) (mCons (mC (.str (cs "abcdefghi"))) (mCons (mC (.str (cs "a\n"))) (mCons (mTup mNil) (mCons (mNew (mLst mNil)) (mCons (mC (.str (cs "zz"))) (mCons (mTup (mCons (mC (.str (cs "sign"))) (mCons (mC (.str (cs "a"))) mNil))) mNil)))))))))))))))
    (sSeq (sAsg (.name 1) (mNew (mCat asE asL (mVar 1) (mLst (mCons (mNew (mLst (mCons (mC (.str (cs "sign"))) (mCons (mC (.str (cs "a"))) mNil)))) (mCons (mTup (mCons (mC (.str (cs "row"))) (mCons (mTup mNil) mNil))) (mCons (mTup (mCons (mC (.str (cs "sign"))) (mCons (mC (.str (cs ""))) mNil))) (mCons (mTup (mCons (mTup (mCons (mC (.str (cs "sign"))) (mCons (mC (.str (cs "a"))) mNil))) mNil)) (mCons (mTup (mCons (mC (.str (cs "mark"))) (mCons (mC (.str (cs "x"))) (mCons (mTup (mCons (mC (.str (cs "sign"))) (mCons (mC (.str (cs "a"))) mNil))) mNil)))) mNil)))))))))
    (sSeq (sApp (mVar 1) (mTup (mCons (mC (.str (cs "any"))) (mCons (mTup (mCons (mTup (mCons (mC (.str (cs "sign"))) (mCons (mC (.str (cs "a"))) mNil))) (mCons (mTup (mCons (mC (.str (cs "sign"))) (mCons (mC (.str (cs "b"))) mNil))) mNil))) mNil))))
    (sRet (mOp gIx (mVar 1) (mCall (F 3) (mCons (mVar 0) (mCons (mC (.int 34)) mNil)))))))))
def b__law_sign (F : Nat → List Val → M Val) : SM :=
    (sSeq (sAsg (.name 1) (mC (.str (cs " !\"#$&'()*+,-./0123456789:;<=>?@ABCDEFGHIJKLMNOPQRSTUVWXYZ[\\]^_`abcdefghijklmnopqrstuvwxyz{|}~\n"))))
    (sRet (mOp gIx (mVar 1) (mCall (F 3) (mCons (mVar 0) (mCons (mC (.int 95)) mNil))))))
def b__law_text (F : Nat → List Val → M Val) : SM :=
    (sSeq (sAsg (.name 1) (mOp gIx (mNew (mLst (mCons (mCall (F 3) (mCons (mVar 0) (mCons (mC (.int 12)) mNil))) (mCons (mCall (F 3) (mCons (mVar 0) (mCons (mC (.int 206)) mNil))) (mCons (mOp gPlus (mC (.int 199)) (mCall (F 3) (mCons (mVar 0) (mCons (mC (.int 3)) mNil)))) mNil))))) (mCall (F 3) (mCons (mVar 0) (mCons (mC (.int 3)) mNil)))))
    (sSeq (sAsg (.name 2) (mJoin asL (mC (.str (cs ""))) (mLc (mRng1 (mOp gPlus (mC (.int 1)) (mCall (F 3) (mCons (mVar 0) (mCons (mC (.int 9)) mNil))))) (.name 5) mYes (mOp gIx (mC (.str (cs " abcdefghijklmnopqrstuvwxyz"))) (mCall (F 3) (mCons (mVar 0) (mCons (mC (.int 27)) mNil)))) [5])))
    (sSeq (sAsg (.name 3) (mSl (mOp gMul (mVar 2) (mC (.int 206))) mNoPart (mPart (mVar 1))))
    (sSeq (sAsg (.name 4) (mCall (F 3) (mCons (mVar 0) (mCons (mOp gPlus (mUn gLen (mVar 3)) (mC (.int 1))) mNil))))
    (sRet (mOp gPlus (mOp gPlus (mSl (mVar 3) mNoPart (mPart (mVar 4))) (mOp gMul (mCall (F 6) (mCons (mVar 0) mNil)) (mOp gDiv (mCall (F 3) (mCons (mVar 0) (mCons (mC (.int 3)) mNil))) (mC (.int 2))))) (mSl (mVar 3) (mPart (mVar 4)) mNoPart)))))))
def b__law_word (F : Nat → List Val → M Val) : SM :=
    (sSeq (sAsg (.name 1) (mCall (F 4) (mCons (mVar 0) (mCons (mCall (F 3) (mCons (mVar 0) (mCons (mC (.int 11)) mNil))) mNil))))
    (sSeq (sAsg (.name 2) (mCall (F 3) (mCons (mVar 0) (mCons (mOp gPlus (mUn gLen (mVar 1)) (mC (.int 1))) mNil))))
    (sSeq (sAsg (.name 3) (mCall (F 6) (mCons (mVar 0) mNil)))
    (sSeq (sAsg (.name 4) (mCall (F 3) (mCons (mVar 0) (mCons (mC (.int 5)) mNil))))
    (sSeq (sIf (mEq false datE datE (mVar 4) (mC (.int 0))) (sRet (mOp gPlus (mOp gPlus (mSl (mVar 1) mNoPart (mPart (mVar 2))) (mVar 3)) (mSl (mVar 1) (mPart (mVar 2)) mNoPart))) sNx)
    (sSeq (sIf (mEq false datE datE (mVar 4) (mC (.int 1))) (sRet (mOp gPlus (mOp gPlus (mSl (mVar 1) mNoPart (mPart (mVar 2))) (mVar 3)) (mSl (mVar 1) (mPart (mOp gPlus (mVar 2) (mC (.int 1)))) mNoPart))) sNx)
    (sSeq (sIf (mEq false datE datE (mVar 4) (mC (.int 2))) (sRet (mOp gPlus (mSl (mVar 1) mNoPart (mPart (mVar 2))) (mSl (mVar 1) (mPart (mOp gPlus (mVar 2) (mC (.int 1)))) mNoPart))) sNx)
    (sRet (mVar 1)))))))))
def b__law_are (F : Nat → List Val → M Val) : SM :=
    (sSeq (sIf (mOr (mNot (mTru (mIsi "str" (mVar 0)))) (mNot (mChn (gCmp fun i j => decide (i ≤ j)) (gCmp fun i j => decide (i ≤ j)) (mVar 2) (mUn gLen (mVar 0)) (mVar 3)))) (sRet (mC (.bl false))) sNx)
    (sRet (mBl (mEq false datL datL (mLc (mSrc (mVar 0)) (.name 4) (mTst (gIn true) (mVar 4) (mVar 1)) (mVar 4) [4]) (mLst mNil)))))
def b__law_right (F : Nat → List Val → M Val) : SM :=
    (sSeq (sAsg (.name 1) (mC (.str (cs "abcdefghijklmnopqrstuvwxyz"))))
    (sSeq (sAsg (.name 2) (mCall (F 0) (mCons (mVar 0) mNil)))
    (sSeq (sAsg (.name 3) (mCall (F 1) (mCons (mVar 0) mNil)))
    (sSeq (sIf (mOr (mNot (mTru (mIsi "bool" (mVar 2)))) (mNot (mTru (mIsi "bool" (mVar 3))))) (sRet (mC (.bl false))) sNx)
    (sRet (mAndV (mBl (mEq false datE datE (mVar 2) (mCall (F 9) (mCons (mVar 0) (mCons (mOp gPlus (mC (.str (cs " "))) (mVar 1)) (mCons (mC (.int 0)) (mCons (mC (.int 200)) mNil))))))) (mBl (mEq false datE datE (mVar 3) (mCall (F 9) (mCons (mVar 0) (mCons (mVar 1) (mCons (mC (.int 1)) (mCons (mC (.int 8)) mNil)))))))))))))
def b_law (F : Nat → List Val → M Val) : SM :=
    (sSeq (sAsg (.name 1) (mCall (F 2) (mCons (mVar 0) mNil)))
    (sSeq (sAsg (.name 2) (mNew (mLst mNil)))
    (sSeq (sFor (mRng1 (mC (.int 4))) (.name 3) (sAsg (.name 2) (mNew (mCat asE asL (mVar 2) (mLst (mCons (mCall (F 7) (mCons (mVar 1) mNil)) (mCons (mCall (F 8) (mCons (mVar 1) mNil)) (mCons (mCall (F 5) (mCons (mVar 1) mNil)) mNil))))))))
    (sSeq (sIf (mEq true datL datL (mLc (mSrc (mOp gPlus (mVar 2) (mUn gRev (mVar 2)))) (.name 4) (mNot (mTru (mCall (F 10) (mCons (mVar 4) mNil)))) (mVar 4) [4]) (mLst mNil)) (sRet (mC (.bl false))) sNx)
    (sRet (mAndV (mBl (mEq false datE datE (mC (.str (cs " abcdefghijklmnopqrstuvwxyz"))) (mC (.str (cs " abcdefghijklmnopqrstuvwxyz"))))) (mAndV (mBl (mEq false datE datE (mC (.int 200)) (mC (.int 200)))) (mNotV (mIsi "bool" (mC (.int 200)))))))))))
def body (F : Nat → List Val → M Val) : Nat → List Val → M Val
  | 0 => trm (runF 1 2 (b_is_text F))
  | 1 => trm (runF 1 2 (b_is_name F))
  | 2 => trm (runF 1 2 (b__law_deck F))
  | 3 => trm (runF 2 4 (b__law_draw F))
  | 4 => trm (runF 2 3 (b__law_letters F))
  | 5 => trm (runF 1 2 (b__law_odd F))
  | 6 => trm (runF 1 2 (b__law_sign F))
  | 7 => trm (runF 1 6 (b__law_text F))
  | 8 => trm (runF 1 5 (b__law_word F))
  | 9 => trm (runF 4 5 (b__law_are F))
  | 10 => trm (runF 1 4 (b__law_right F))
  | 11 => trm (runF 1 5 (b_law F))
  | _ => fun _ _ => .bad
def Fn : Nat → Nat → List Val → M Val
  | 0 => fun _ _ _ => .bad
  | n + 1 => body (Fn n)
theorem fn_is_text (n : Nat) : Fn (n + 1) 0 = trm (runF 1 2 (b_is_text (Fn n))) := rfl
theorem fn_is_name (n : Nat) : Fn (n + 1) 1 = trm (runF 1 2 (b_is_name (Fn n))) := rfl
theorem fn__law_deck (n : Nat) : Fn (n + 1) 2 = trm (runF 1 2 (b__law_deck (Fn n))) := rfl
theorem fn__law_draw (n : Nat) : Fn (n + 1) 3 = trm (runF 2 4 (b__law_draw (Fn n))) := rfl
theorem fn__law_letters (n : Nat) : Fn (n + 1) 4 = trm (runF 2 3 (b__law_letters (Fn n))) := rfl
theorem fn__law_odd (n : Nat) : Fn (n + 1) 5 = trm (runF 1 2 (b__law_odd (Fn n))) := rfl
theorem fn__law_sign (n : Nat) : Fn (n + 1) 6 = trm (runF 1 2 (b__law_sign (Fn n))) := rfl
theorem fn__law_text (n : Nat) : Fn (n + 1) 7 = trm (runF 1 6 (b__law_text (Fn n))) := rfl
theorem fn__law_word (n : Nat) : Fn (n + 1) 8 = trm (runF 1 5 (b__law_word (Fn n))) := rfl
theorem fn__law_are (n : Nat) : Fn (n + 1) 9 = trm (runF 4 5 (b__law_are (Fn n))) := rfl
theorem fn__law_right (n : Nat) : Fn (n + 1) 10 = trm (runF 1 4 (b__law_right (Fn n))) := rfl
theorem fn_law (n : Nat) : Fn (n + 1) 11 = trm (runF 1 5 (b_law (Fn n))) := rfl
end Mx.K01

set_option linter.all false
set_option maxRecDepth 100000
set_option maxHeartbeats 0
namespace Mx.K01
open PySem PySem.Spec PyProof.Rows L2 Mx
def top (i : Nat) : Stmt := PySem.Challenge.pw_markpieces_k01_signs_and_names.main.body.getD i (.Pass ⟨0, 0, 0, 0⟩)
abbrev s_is_text : Stmt := top 5
abbrev nm_is_text : List Str := ["thing", "sign"]
theorem sc_is_text : FnScope nm_is_text ["thing"] (defScope s_is_text) := ⟨rfl, rfl, rfl, by decide +kernel, rfl, by decide +kernel, by decide +kernel⟩
abbrev D_is_text (K : PySem.W.Frag) (f : Addr) (fd : FuncData) : Prop := FunD K "is_text" "is_text" (defArgs s_is_text) (defBody s_is_text) (defScope s_is_text) [] [] f fd
abbrev s_is_name : Stmt := top 6
abbrev nm_is_name : List Str := ["thing", "sign"]
theorem sc_is_name : FnScope nm_is_name ["thing"] (defScope s_is_name) := ⟨rfl, rfl, rfl, by decide +kernel, rfl, by decide +kernel, by decide +kernel⟩
abbrev D_is_name (K : PySem.W.Frag) (f : Addr) (fd : FuncData) : Prop := FunD K "is_name" "is_name" (defArgs s_is_name) (defBody s_is_name) (defScope s_is_name) [] [] f fd
abbrev s__law_deck : Stmt := top 8
abbrev nm__law_deck : List Str := ["_law_script", "_law_cell"]
theorem sc__law_deck : FnScope nm__law_deck ["_law_script"] (defScope s__law_deck) := ⟨rfl, rfl, rfl, by decide +kernel, rfl, by decide +kernel, by decide +kernel⟩
abbrev D__law_deck (K : PySem.W.Frag) (f : Addr) (fd : FuncData) : Prop := FunD K "_law_deck" "_law_deck" (defArgs s__law_deck) (defBody s__law_deck) (defScope s__law_deck) [] [] f fd
abbrev s__law_draw : Stmt := top 9
abbrev nm__law_draw : List Str := ["_law_deck_here", "_law_many", "_law_cell", "_law_place"]
theorem sc__law_draw : FnScope nm__law_draw ["_law_deck_here", "_law_many"] (defScope s__law_draw) := ⟨rfl, rfl, rfl, by decide +kernel, rfl, by decide +kernel, by decide +kernel⟩
abbrev D__law_draw (K : PySem.W.Frag) (f : Addr) (fd : FuncData) : Prop := FunD K "_law_draw" "_law_draw" (defArgs s__law_draw) (defBody s__law_draw) (defScope s__law_draw) [] [] f fd
abbrev s__law_letters : Stmt := top 10
abbrev nm__law_letters : List Str := ["_law_deck_here", "_law_many", "_law_k"]
theorem sc__law_letters : FnScope nm__law_letters ["_law_deck_here", "_law_many"] (defScope s__law_letters) := ⟨rfl, rfl, rfl, by decide +kernel, rfl, by decide +kernel, by decide +kernel⟩
abbrev D__law_letters (K : PySem.W.Frag) (f : Addr) (fd : FuncData) : Prop := FunD K "_law_letters" "_law_letters" (defArgs s__law_letters) (defBody s__law_letters) (defScope s__law_letters) [] [] f fd
abbrev s__law_odd : Stmt := top 11
abbrev nm__law_odd : List Str := ["_law_deck_here", "_law_some"]
theorem sc__law_odd : FnScope nm__law_odd ["_law_deck_here"] (defScope s__law_odd) := ⟨rfl, rfl, rfl, by decide +kernel, rfl, by decide +kernel, by decide +kernel⟩
abbrev D__law_odd (K : PySem.W.Frag) (f : Addr) (fd : FuncData) : Prop := FunD K "_law_odd" "_law_odd" (defArgs s__law_odd) (defBody s__law_odd) (defScope s__law_odd) [] [] f fd
abbrev s__law_sign : Stmt := top 13
abbrev nm__law_sign : List Str := ["_law_deck_here", "_law_some"]
theorem sc__law_sign : FnScope nm__law_sign ["_law_deck_here"] (defScope s__law_sign) := ⟨rfl, rfl, rfl, by decide +kernel, rfl, by decide +kernel, by decide +kernel⟩
abbrev D__law_sign (K : PySem.W.Frag) (f : Addr) (fd : FuncData) : Prop := FunD K "_law_sign" "_law_sign" (defArgs s__law_sign) (defBody s__law_sign) (defScope s__law_sign) [] [] f fd
abbrev s__law_text : Stmt := top 14
abbrev nm__law_text : List Str := ["_law_deck_here", "_law_many", "_law_stem", "_law_found", "_law_at", "_law_k"]
theorem sc__law_text : FnScope nm__law_text ["_law_deck_here"] (defScope s__law_text) := ⟨rfl, rfl, rfl, by decide +kernel, rfl, by decide +kernel, by decide +kernel⟩
abbrev D__law_text (K : PySem.W.Frag) (f : Addr) (fd : FuncData) : Prop := FunD K "_law_text" "_law_text" (defArgs s__law_text) (defBody s__law_text) (defScope s__law_text) [] [] f fd
abbrev s__law_word : Stmt := top 15
abbrev nm__law_word : List Str := ["_law_deck_here", "_law_word_here", "_law_at", "_law_sign_here", "_law_way"]
theorem sc__law_word : FnScope nm__law_word ["_law_deck_here"] (defScope s__law_word) := ⟨rfl, rfl, rfl, by decide +kernel, rfl, by decide +kernel, by decide +kernel⟩
abbrev D__law_word (K : PySem.W.Frag) (f : Addr) (fd : FuncData) : Prop := FunD K "_law_word" "_law_word" (defArgs s__law_word) (defBody s__law_word) (defScope s__law_word) [] [] f fd
abbrev s__law_are : Stmt := top 16
abbrev nm__law_are : List Str := ["_law_thing", "_law_signs", "_law_least", "_law_most", "_law_sign_here"]
theorem sc__law_are : FnScope nm__law_are ["_law_thing", "_law_signs", "_law_least", "_law_most"] (defScope s__law_are) := ⟨rfl, rfl, rfl, by decide +kernel, rfl, by decide +kernel, by decide +kernel⟩
abbrev D__law_are (K : PySem.W.Frag) (f : Addr) (fd : FuncData) : Prop := FunD K "_law_are" "_law_are" (defArgs s__law_are) (defBody s__law_are) (defScope s__law_are) [] [] f fd
abbrev s__law_right : Stmt := top 17
abbrev nm__law_right : List Str := ["_law_thing", "_law_letters_here", "_law_told", "_law_named"]
theorem sc__law_right : FnScope nm__law_right ["_law_thing"] (defScope s__law_right) := ⟨rfl, rfl, rfl, by decide +kernel, rfl, by decide +kernel, by decide +kernel⟩
abbrev D__law_right (K : PySem.W.Frag) (f : Addr) (fd : FuncData) : Prop := FunD K "_law_right" "_law_right" (defArgs s__law_right) (defBody s__law_right) (defScope s__law_right) [] [] f fd
abbrev s_law : Stmt := top 18
abbrev nm_law : List Str := ["_law_script", "_law_deck_here", "_law_things", "_law_k", "_law_thing"]
theorem sc_law : FnScope nm_law ["_law_script"] (defScope s_law) := ⟨rfl, rfl, rfl, by decide +kernel, rfl, by decide +kernel, by decide +kernel⟩
abbrev D_law (K : PySem.W.Frag) (f : Addr) (fd : FuncData) : Prop := FunD K "law" "law" (defArgs s_law) (defBody s_law) (defScope s_law) [] [] f fd
structure Bl (mg : Str → Option Value) : Prop where
  b_abs : mg "abs" = none
  b_all : mg "all" = none
  b_bool : mg "bool" = none
  b_isinstance : mg "isinstance" = none
  b_len : mg "len" = none
  b_range : mg "range" = none
  b_str : mg "str" = none
structure Gs (mg : Str → Option Value) : Prop where
  c_LETTERS : ∃ t, mg "LETTERS" = some (.str (Str.ofString "abcdefghijklmnopqrstuvwxyz") t)
  c_LONG : ∃ t, mg "LONG" = some (.int 200 t)
  c_LONGEST_NAME : ∃ t, mg "LONGEST_NAME" = some (.int 8 t)
  c_SIGNS : ∃ t, mg "SIGNS" = some (.str (Str.ofString " abcdefghijklmnopqrstuvwxyz") t)
section
variable {P : Program} {w : World} {K : PySem.W.Frag} {mg : Str → Option Value} {base : Heap}
structure Fds (P : Program) (w : World) (K : PySem.W.Frag) (mg : Str → Option Value) (base : Heap) (n : Nat) : Prop where
  f_is_text : Fd P w K mg base CX0 n "is_text" (Fn n 0)
  f_is_name : Fd P w K mg base CX0 n "is_name" (Fn n 1)
  f__law_deck : Fd P w K mg base CX0 n "_law_deck" (Fn n 2)
  f__law_draw : Fd P w K mg base CX0 n "_law_draw" (Fn n 3)
  f__law_letters : Fd P w K mg base CX0 n "_law_letters" (Fn n 4)
  f__law_odd : Fd P w K mg base CX0 n "_law_odd" (Fn n 5)
  f__law_sign : Fd P w K mg base CX0 n "_law_sign" (Fn n 6)
  f__law_text : Fd P w K mg base CX0 n "_law_text" (Fn n 7)
  f__law_word : Fd P w K mg base CX0 n "_law_word" (Fn n 8)
  f__law_are : Fd P w K mg base CX0 n "_law_are" (Fn n 9)
  f__law_right : Fd P w K mg base CX0 n "_law_right" (Fn n 10)
  f_law : Fd P w K mg base CX0 n "law" (Fn n 11)
theorem o_is_text {n : Nat} {f : Addr} {fd : FuncData} (B : Bl mg) (G : Gs mg) (C : Fds P w K mg base n) (F : D_is_text K f fd) : FnOk P w K mg base CX0 (n + 1) f fd ["thing"] (spI K (Fn (n + 1) 0)) := by
  have nd := sc_is_text.nd
  rw [fn_is_text]
  refine @fn_md P w K mg base "is_text" "is_text" s_is_text f fd nm_is_text ["thing"] n (b_is_text (Fn n)) F sc_is_text (fun cdv A outer s H E hr => ?_)
  unfold b_is_text
  exact (pssm_one (psm_ret (pem_andV (pem_isi (T := "str") (by decide) B.b_isinstance B.b_str (pem_var (i := 0))) (pem_andV (pem_cmp tsm_le (pem_b1 unm_len B.b_len (pem_var (i := 0))) (pem_gint G.c_LONG)) (pem_one (pem_bL lvL (lim_all rfl) B.b_all ((PLm.x (plm_lc (N := nm_is_text) (sc := defScope s_is_text) (own := [("sign", 1)]) rfl nd (pim_val (pem_var (i := 0))) (by decide +kernel) rfl rfl (fun _ _ _ _ _ => (pgt_name (j := 1) nd)) (fun _ _ _ _ _ => ptsm_nil) (fun _ _ _ _ _ => (pem_cmp (tsm_in (room66 hr)) (pem_var (i := 1)) (pem_gstr G.c_SIGNS))) (by decide))))))))))
theorem o_is_name {n : Nat} {f : Addr} {fd : FuncData} (B : Bl mg) (G : Gs mg) (C : Fds P w K mg base n) (F : D_is_name K f fd) : FnOk P w K mg base CX0 (n + 1) f fd ["thing"] (spI K (Fn (n + 1) 1)) := by
  have nd := sc_is_name.nd
  rw [fn_is_name]
  refine @fn_md P w K mg base "is_name" "is_name" s_is_name f fd nm_is_name ["thing"] n (b_is_name (Fn n)) F sc_is_name (fun cdv A outer s H E hr => ?_)
  unfold b_is_name
  exact (pssm_one (psm_ret (pem_andV (pem_isi (T := "str") (by decide) B.b_isinstance B.b_str (pem_var (i := 0))) (pem_andV (pem_chn tsm_le tsm_le pem_int (pem_b1 unm_len B.b_len (pem_var (i := 0))) (pem_gint G.c_LONGEST_NAME)) (pem_one (pem_bL lvL (lim_all rfl) B.b_all ((PLm.x (plm_lc (N := nm_is_name) (sc := defScope s_is_name) (own := [("sign", 1)]) rfl nd (pim_val (pem_var (i := 0))) (by decide +kernel) rfl rfl (fun _ _ _ _ _ => (pgt_name (j := 1) nd)) (fun _ _ _ _ _ => ptsm_nil) (fun _ _ _ _ _ => (pem_cmp (tsm_in (room66 hr)) (pem_var (i := 1)) (pem_gstr G.c_LETTERS))) (by decide))))))))))
theorem o__law_deck {n : Nat} {f : Addr} {fd : FuncData} (B : Bl mg) (G : Gs mg) (C : Fds P w K mg base n) (F : D__law_deck K f fd) : FnOk P w K mg base CX0 (n + 1) f fd ["_law_script"] (spI K (Fn (n + 1) 2)) := by
  have nd := sc__law_deck.nd
  rw [fn__law_deck]
  refine @fn_md P w K mg base "_law_deck" "_law_deck" s__law_deck f fd nm__law_deck ["_law_script"] n (b__law_deck (Fn n)) F sc__law_deck (fun cdv A outer s H E hr => ?_)
  unfold b__law_deck
  exact (pssm_one (psm_ret (pem_new (plm_lst (pam_cons (pem_new (plm_lc (N := nm__law_deck) (sc := defScope s__law_deck) (own := [("_law_cell", 1)]) rfl nd (pim_val (pem_slice (pem_var (i := 0)) pom_none (pom_some pem_int))) (by decide +kernel) rfl rfl (fun _ _ _ _ _ => (pgt_name (j := 1) nd)) (fun _ _ _ _ _ => ptsm_nil) (fun _ _ _ _ _ => (pem_b1 unm_abs B.b_abs (pem_var (i := 1)))) (by decide))) (pam_cons pem_int pam_nil))))))
theorem o__law_draw {n : Nat} {f : Addr} {fd : FuncData} (B : Bl mg) (G : Gs mg) (C : Fds P w K mg base n) (F : D__law_draw K f fd) : FnOk P w K mg base CX0 (n + 1) f fd ["_law_deck_here", "_law_many"] (spI K (Fn (n + 1) 3)) := by
  have nd := sc__law_draw.nd
  rw [fn__law_draw]
  refine @fn_md P w K mg base "_law_draw" "_law_draw" s__law_draw f fd nm__law_draw ["_law_deck_here", "_law_many"] n (b__law_draw (Fn n)) F sc__law_draw (fun cdv A outer s H E hr => ?_)
  unfold b__law_draw
  exact (pssm_cons (psm_sub (pem_op opm_plus (pem_ix (pem_var (i := 0)) pem_int) pem_int) (pem_var (i := 0)) pem_int)
    (pssm_cons (psm_asg (pgt_name (j := 2) nd) pem_int)
    (pssm_cons (psm_asg (pgt_name (j := 3) nd) (pem_neg pem_int))
    (pssm_cons (psm_if (ptm_cmp tsm_gt (pem_b1 unm_len B.b_len (pem_ix (pem_var (i := 0)) pem_int)) pem_int) (pssm_cons (psm_asg (pgt_name (j := 3) nd) (pem_op opm_mod (pem_ix (pem_var (i := 0)) pem_int) (pem_b1 unm_len B.b_len (pem_ix (pem_var (i := 0)) pem_int))))
    (pssm_one (psm_asg (pgt_name (j := 2) nd) (pem_ix (pem_ix (pem_var (i := 0)) pem_int) (pem_var (i := 3)))))) pssm_nil)
    (pssm_cons (psm_if (ptm_cmp tsm_ge (pem_var (i := 2)) (pem_op opm_pow pem_int pem_int)) (pssm_cons (psm_sub (pem_op opm_div (pem_var (i := 2)) (pem_var (i := 1))) (pem_ix (pem_var (i := 0)) pem_int) (pem_var (i := 3)))
    (pssm_one (psm_ret (pem_op opm_mod (pem_var (i := 2)) (pem_var (i := 1)))))) pssm_nil)
    (pssm_one (psm_ret (pem_op opm_mod (pem_op opm_mod (pem_op opm_pow (pem_op opm_plus (pem_op opm_plus (pem_op opm_mod (pem_var (i := 2)) pem_int) (pem_op opm_mul pem_int (pem_ix (pem_var (i := 0)) pem_int))) pem_int) pem_int) pem_int) (pem_var (i := 1))))))))))
theorem o__law_letters {n : Nat} {f : Addr} {fd : FuncData} (B : Bl mg) (G : Gs mg) (C : Fds P w K mg base n) (F : D__law_letters K f fd) : FnOk P w K mg base CX0 (n + 1) f fd ["_law_deck_here", "_law_many"] (spI K (Fn (n + 1) 4)) := by
  have nd := sc__law_letters.nd
  rw [fn__law_letters]
  refine @fn_md P w K mg base "_law_letters" "_law_letters" s__law_letters f fd nm__law_letters ["_law_deck_here", "_law_many"] n (b__law_letters (Fn n)) F sc__law_letters (fun cdv A outer s H E hr => ?_)
  unfold b__law_letters
  exact (pssm_one (psm_ret (pem_join lvL pem_cs ((PLm.x (plm_lc (N := nm__law_letters) (sc := defScope s__law_letters) (own := [("_law_k", 2)]) rfl nd (pim_range1 B.b_range (pem_var (i := 1))) (by decide +kernel) rfl rfl (fun _ _ _ _ _ => (pgt_name (j := 2) nd)) (fun _ _ _ _ _ => ptsm_nil) (fun _ _ _ _ _ => (pem_ix pem_cs (pem_call C.f__law_draw hr pass0 (pam_cons (pem_var (i := 0)) (pam_cons pem_int pam_nil))))) (by decide)))))))
theorem o__law_odd {n : Nat} {f : Addr} {fd : FuncData} (B : Bl mg) (G : Gs mg) (C : Fds P w K mg base n) (F : D__law_odd K f fd) : FnOk P w K mg base CX0 (n + 1) f fd ["_law_deck_here"] (spI K (Fn (n + 1) 5)) := by
  have nd := sc__law_odd.nd
  rw [fn__law_odd]
  refine @fn_md P w K mg base "_law_odd" "_law_odd" s__law_odd f fd nm__law_odd ["_law_deck_here"] n (b__law_odd (Fn n)) F sc__law_odd (fun cdv A outer s H E hr => ?_)
  unfold b__law_odd
  exact (pssm_cons (psm_asg (pgt_name (j := 1) nd) (pem_new (plm_lst (pam_cons pem_non (pam_cons pem_bl (pam_cons pem_bl (pam_cons pem_int (pam_cons pem_int (pam_cons pem_int (pam_cons (pem_neg pem_int) (pam_cons (pem_op opm_pow pem_int pem_int) (pam_cons pem_cs (pam_cons pem_cs (pam_cons pem_cs (pam_cons pem_cs (pam_cons pem_cs (pam_cons pem_cs (pam_cons pem_cs (pam_cons pem_cs (pam_cons pem_cs pam_nil))))))))))))))))))))
    (pssm_cons (psm_asg (pgt_name (j := 1) nd) (pem_new (plm_cat lvE lvL ((PEm.x (pem_var (i := 1)))) ((PLm.x (plm_lst (pam_cons pem_cs (pam_cons pem_cs (pam_cons pem_cs (pam_cons pem_cs (pam_cons pem_cs (pam_cons pem_cs (pam_cons pem_cs (pam_cons (pem_tup pam_nil) (pam_cons (pem_new (plm_lst pam_nil)) (pam_cons pem_cs (pam_cons (pem_tup (pam_cons pem_cs (pam_cons pem_cs pam_nil))) pam_nil)))))))))))))))))
    (pssm_cons (psm_asg (pgt_name (j := 1) nd) (pem_new (plm_cat lvE lvL ((PEm.x (pem_var (i := 1)))) ((PLm.x (plm_lst (pam_cons (pem_new (plm_lst (pam_cons pem_cs (pam_cons pem_cs pam_nil)))) (pam_cons (pem_tup (pam_cons pem_cs (pam_cons (pem_tup pam_nil) pam_nil))) (pam_cons (pem_tup (pam_cons pem_cs (pam_cons pem_cs pam_nil))) (pam_cons (pem_tup (pam_cons (pem_tup (pam_cons pem_cs (pam_cons pem_cs pam_nil))) pam_nil)) (pam_cons (pem_tup (pam_cons pem_cs (pam_cons pem_cs (pam_cons (pem_tup (pam_cons pem_cs (pam_cons pem_cs pam_nil))) pam_nil)))) pam_nil)))))))))))
    (pssm_cons (psm_app (pem_var (i := 1)) (pem_tup (pam_cons pem_cs (pam_cons (pem_tup (pam_cons (pem_tup (pam_cons pem_cs (pam_cons pem_cs pam_nil))) (pam_cons (pem_tup (pam_cons pem_cs (pam_cons pem_cs pam_nil))) pam_nil))) pam_nil))))
    (pssm_one (psm_ret (pem_ix (pem_var (i := 1)) (pem_call C.f__law_draw hr pass0 (pam_cons (pem_var (i := 0)) (pam_cons pem_int pam_nil))))))))))
theorem o__law_sign {n : Nat} {f : Addr} {fd : FuncData} (B : Bl mg) (G : Gs mg) (C : Fds P w K mg base n) (F : D__law_sign K f fd) : FnOk P w K mg base CX0 (n + 1) f fd ["_law_deck_here"] (spI K (Fn (n + 1) 6)) := by
  have nd := sc__law_sign.nd
  rw [fn__law_sign]
  refine @fn_md P w K mg base "_law_sign" "_law_sign" s__law_sign f fd nm__law_sign ["_law_deck_here"] n (b__law_sign (Fn n)) F sc__law_sign (fun cdv A outer s H E hr => ?_)
  unfold b__law_sign
  exact (pssm_cons (psm_asg (pgt_name (j := 1) nd) pem_cs)
    (pssm_one (psm_ret (pem_ix (pem_var (i := 1)) (pem_call C.f__law_draw hr pass0 (pam_cons (pem_var (i := 0)) (pam_cons pem_int pam_nil)))))))
theorem o__law_text {n : Nat} {f : Addr} {fd : FuncData} (B : Bl mg) (G : Gs mg) (C : Fds P w K mg base n) (F : D__law_text K f fd) : FnOk P w K mg base CX0 (n + 1) f fd ["_law_deck_here"] (spI K (Fn (n + 1) 7)) := by
  have nd := sc__law_text.nd
  rw [fn__law_text]
  refine @fn_md P w K mg base "_law_text" "_law_text" s__law_text f fd nm__law_text ["_law_deck_here"] n (b__law_text (Fn n)) F sc__law_text (fun cdv A outer s H E hr => ?_)
  unfold b__law_text
  exact (pssm_cons (psm_asg (pgt_name (j := 1) nd) (pem_ix (pem_new (plm_lst (pam_cons (pem_call C.f__law_draw hr pass0 (pam_cons (pem_var (i := 0)) (pam_cons pem_int pam_nil))) (pam_cons (pem_call C.f__law_draw hr pass0 (pam_cons (pem_var (i := 0)) (pam_cons pem_int pam_nil))) (pam_cons (pem_op opm_plus pem_int (pem_call C.f__law_draw hr pass0 (pam_cons (pem_var (i := 0)) (pam_cons pem_int pam_nil)))) pam_nil))))) (pem_call C.f__law_draw hr pass0 (pam_cons (pem_var (i := 0)) (pam_cons pem_int pam_nil)))))
    (pssm_cons (psm_asg (pgt_name (j := 2) nd) (pem_join lvL pem_cs ((PLm.x (plm_lc (N := nm__law_text) (sc := defScope s__law_text) (own := [("_law_k", 5)]) rfl nd (pim_range1 B.b_range (pem_op opm_plus pem_int (pem_call C.f__law_draw hr pass0 (pam_cons (pem_var (i := 0)) (pam_cons pem_int pam_nil))))) (by decide +kernel) rfl rfl (fun _ _ _ _ _ => (pgt_name (j := 5) nd)) (fun _ _ _ _ _ => ptsm_nil) (fun _ _ _ _ _ => (pem_ix pem_cs (pem_call C.f__law_draw hr pass0 (pam_cons (pem_var (i := 0)) (pam_cons pem_int pam_nil))))) (by decide))))))
    (pssm_cons (psm_asg (pgt_name (j := 3) nd) (pem_slice (pem_op opm_mul (pem_var (i := 2)) pem_int) pom_none (pom_some (pem_var (i := 1)))))
    (pssm_cons (psm_asg (pgt_name (j := 4) nd) (pem_call C.f__law_draw hr pass0 (pam_cons (pem_var (i := 0)) (pam_cons (pem_op opm_plus (pem_b1 unm_len B.b_len (pem_var (i := 3))) pem_int) pam_nil))))
    (pssm_one (psm_ret (pem_op opm_plus (pem_op opm_plus (pem_slice (pem_var (i := 3)) pom_none (pom_some (pem_var (i := 4)))) (pem_op opm_mul (pem_call C.f__law_sign hr pass0 (pam_cons (pem_var (i := 0)) pam_nil)) (pem_op opm_div (pem_call C.f__law_draw hr pass0 (pam_cons (pem_var (i := 0)) (pam_cons pem_int pam_nil))) pem_int))) (pem_slice (pem_var (i := 3)) (pom_some (pem_var (i := 4))) pom_none))))))))
theorem o__law_word {n : Nat} {f : Addr} {fd : FuncData} (B : Bl mg) (G : Gs mg) (C : Fds P w K mg base n) (F : D__law_word K f fd) : FnOk P w K mg base CX0 (n + 1) f fd ["_law_deck_here"] (spI K (Fn (n + 1) 8)) := by
  have nd := sc__law_word.nd
  rw [fn__law_word]
  refine @fn_md P w K mg base "_law_word" "_law_word" s__law_word f fd nm__law_word ["_law_deck_here"] n (b__law_word (Fn n)) F sc__law_word (fun cdv A outer s H E hr => ?_)
  unfold b__law_word
  exact (pssm_cons (psm_asg (pgt_name (j := 1) nd) (pem_call C.f__law_letters hr pass0 (pam_cons (pem_var (i := 0)) (pam_cons (pem_call C.f__law_draw hr pass0 (pam_cons (pem_var (i := 0)) (pam_cons pem_int pam_nil))) pam_nil))))
    (pssm_cons (psm_asg (pgt_name (j := 2) nd) (pem_call C.f__law_draw hr pass0 (pam_cons (pem_var (i := 0)) (pam_cons (pem_op opm_plus (pem_b1 unm_len B.b_len (pem_var (i := 1))) pem_int) pam_nil))))
    (pssm_cons (psm_asg (pgt_name (j := 3) nd) (pem_call C.f__law_sign hr pass0 (pam_cons (pem_var (i := 0)) pam_nil)))
    (pssm_cons (psm_asg (pgt_name (j := 4) nd) (pem_call C.f__law_draw hr pass0 (pam_cons (pem_var (i := 0)) (pam_cons pem_int pam_nil))))
    (pssm_cons (psm_if (ptm_eqG (op_eqP hr.units) viewE viewE ((PEm.x (pem_var (i := 4)))) ((PEm.x pem_int)) (nomark _)) (pssm_one (psm_ret (pem_op opm_plus (pem_op opm_plus (pem_slice (pem_var (i := 1)) pom_none (pom_some (pem_var (i := 2)))) (pem_var (i := 3))) (pem_slice (pem_var (i := 1)) (pom_some (pem_var (i := 2))) pom_none)))) pssm_nil)
    (pssm_cons (psm_if (ptm_eqG (op_eqP hr.units) viewE viewE ((PEm.x (pem_var (i := 4)))) ((PEm.x pem_int)) (nomark _)) (pssm_one (psm_ret (pem_op opm_plus (pem_op opm_plus (pem_slice (pem_var (i := 1)) pom_none (pom_some (pem_var (i := 2)))) (pem_var (i := 3))) (pem_slice (pem_var (i := 1)) (pom_some (pem_op opm_plus (pem_var (i := 2)) pem_int)) pom_none)))) pssm_nil)
    (pssm_cons (psm_if (ptm_eqG (op_eqP hr.units) viewE viewE ((PEm.x (pem_var (i := 4)))) ((PEm.x pem_int)) (nomark _)) (pssm_one (psm_ret (pem_op opm_plus (pem_slice (pem_var (i := 1)) pom_none (pom_some (pem_var (i := 2)))) (pem_slice (pem_var (i := 1)) (pom_some (pem_op opm_plus (pem_var (i := 2)) pem_int)) pom_none)))) pssm_nil)
    (pssm_one (psm_ret (pem_var (i := 1)))))))))))
theorem o__law_are {n : Nat} {f : Addr} {fd : FuncData} (B : Bl mg) (G : Gs mg) (C : Fds P w K mg base n) (F : D__law_are K f fd) : FnOk P w K mg base CX0 (n + 1) f fd ["_law_thing", "_law_signs", "_law_least", "_law_most"] (spI K (Fn (n + 1) 9)) := by
  have nd := sc__law_are.nd
  rw [fn__law_are]
  refine @fn_md P w K mg base "_law_are" "_law_are" s__law_are f fd nm__law_are ["_law_thing", "_law_signs", "_law_least", "_law_most"] n (b__law_are (Fn n)) F sc__law_are (fun cdv A outer s H E hr => ?_)
  unfold b__law_are
  exact (pssm_cons (psm_if (ptm_w (pwm_or (ptm_not (ptm_tru (pem_isi (T := "str") (by decide) B.b_isinstance B.b_str (pem_var (i := 0))))) (pwm_or1 (ptm_not (ptm_chn tsm_le tsm_le (pem_var (i := 2)) (pem_b1 unm_len B.b_len (pem_var (i := 0))) (pem_var (i := 3))))))) (pssm_one (psm_ret pem_bl)) pssm_nil)
    (pssm_one (psm_ret (pem_eqG (op_eqP hr.units) viewL viewL ((PLm.x (plm_lc (N := nm__law_are) (sc := defScope s__law_are) (own := [("_law_sign_here", 4)]) rfl nd (pim_val (pem_var (i := 0))) (by decide +kernel) rfl rfl (fun _ _ _ _ _ => (pgt_name (j := 4) nd)) (fun _ _ _ _ _ => (ptsm_one (ptm_cmp (tsm_notIn (room66 hr)) (pem_var (i := 4)) (pem_var (i := 1))))) (fun _ _ _ _ _ => (pem_var (i := 4))) (by decide)))) ((PLm.x (plm_lst pam_nil))) (nomark _)))))
theorem o__law_right {n : Nat} {f : Addr} {fd : FuncData} (B : Bl mg) (G : Gs mg) (C : Fds P w K mg base n) (F : D__law_right K f fd) : FnOk P w K mg base CX0 (n + 1) f fd ["_law_thing"] (spI K (Fn (n + 1) 10)) := by
  have nd := sc__law_right.nd
  rw [fn__law_right]
  refine @fn_md P w K mg base "_law_right" "_law_right" s__law_right f fd nm__law_right ["_law_thing"] n (b__law_right (Fn n)) F sc__law_right (fun cdv A outer s H E hr => ?_)
  unfold b__law_right
  exact (pssm_cons (psm_asg (pgt_name (j := 1) nd) pem_cs)
    (pssm_cons (psm_asg (pgt_name (j := 2) nd) (pem_call C.f_is_text hr pass0 (pam_cons (pem_var (i := 0)) pam_nil)))
    (pssm_cons (psm_asg (pgt_name (j := 3) nd) (pem_call C.f_is_name hr pass0 (pam_cons (pem_var (i := 0)) pam_nil)))
    (pssm_cons (psm_if (ptm_w (pwm_or (ptm_not (ptm_tru (pem_isi (T := "bool") (by decide) B.b_isinstance B.b_bool (pem_var (i := 2))))) (pwm_or1 (ptm_not (ptm_tru (pem_isi (T := "bool") (by decide) B.b_isinstance B.b_bool (pem_var (i := 3)))))))) (pssm_one (psm_ret pem_bl)) pssm_nil)
    (pssm_one (psm_ret (pem_andV (pem_eqG (op_eqP hr.units) viewE viewE ((PEm.x (pem_var (i := 2)))) ((PEm.x (pem_call C.f__law_are hr pass0 (pam_cons (pem_var (i := 0)) (pam_cons (pem_op opm_plus pem_cs (pem_var (i := 1))) (pam_cons pem_int (pam_cons pem_int pam_nil))))))) (nomark _)) (pem_one (pem_eqG (op_eqP hr.units) viewE viewE ((PEm.x (pem_var (i := 3)))) ((PEm.x (pem_call C.f__law_are hr pass0 (pam_cons (pem_var (i := 0)) (pam_cons (pem_var (i := 1)) (pam_cons pem_int (pam_cons pem_int pam_nil))))))) (nomark _))))))))))
theorem o_law {n : Nat} {f : Addr} {fd : FuncData} (B : Bl mg) (G : Gs mg) (C : Fds P w K mg base n) (F : D_law K f fd) : FnOk P w K mg base CX0 (n + 1) f fd ["_law_script"] (spI K (Fn (n + 1) 11)) := by
  have nd := sc_law.nd
  rw [fn_law]
  refine @fn_md P w K mg base "law" "law" s_law f fd nm_law ["_law_script"] n (b_law (Fn n)) F sc_law (fun cdv A outer s H E hr => ?_)
  unfold b_law
  exact (pssm_cons (psm_asg (pgt_name (j := 1) nd) (pem_call C.f__law_deck hr pass0 (pam_cons (pem_var (i := 0)) pam_nil)))
    (pssm_cons (psm_asg (pgt_name (j := 2) nd) (pem_new (plm_lst pam_nil)))
    (pssm_cons (psm_for PassesOwn.never rfl (pim_range1 B.b_range pem_int) (pgt_name (j := 3) nd) (pssm_one (psm_asg (pgt_name (j := 2) nd) (pem_new (plm_cat lvE lvL ((PEm.x (pem_var (i := 2)))) ((PLm.x (plm_lst (pam_cons (pem_call C.f__law_text hr pass0 (pam_cons (pem_var (i := 1)) pam_nil)) (pam_cons (pem_call C.f__law_word hr pass0 (pam_cons (pem_var (i := 1)) pam_nil)) (pam_cons (pem_call C.f__law_odd hr pass0 (pam_cons (pem_var (i := 1)) pam_nil)) pam_nil)))))))))))
    (pssm_cons (psm_if (ptm_eqG (op_neP hr.units) viewL viewL ((PLm.x (plm_lc (N := nm_law) (sc := defScope s_law) (own := [("_law_thing", 4)]) rfl nd (pim_val (pem_op opm_plus (pem_var (i := 2)) (pem_rev (pem_var (i := 2))))) (by decide +kernel) rfl rfl (fun _ _ _ _ _ => (pgt_name (j := 4) nd)) (fun _ _ _ _ _ => (ptsm_one (ptm_not (ptm_tru (pem_call C.f__law_right hr pass0 (pam_cons (pem_var (i := 4)) pam_nil)))))) (fun _ _ _ _ _ => (pem_var (i := 4))) (by decide)))) ((PLm.x (plm_lst pam_nil))) (nomark _)) (pssm_one (psm_ret pem_bl)) pssm_nil)
    (pssm_one (psm_ret (pem_andV (pem_eqG (op_eqP hr.units) viewE viewE ((PEm.x (pem_gstr G.c_SIGNS))) ((PEm.x pem_cs)) (nomark _)) (pem_andV (pem_eqG (op_eqP hr.units) viewE viewE ((PEm.x (pem_gint G.c_LONG))) ((PEm.x pem_int)) (nomark _)) (pem_one (pem_notV (pem_isi (T := "bool") (by decide) B.b_isinstance B.b_bool (pem_gint G.c_LONG))))))))))))
theorem all {f0 f1 f2 f3 f4 f5 f6 f7 f8 f9 f10 f11 : Addr} {fd0 fd1 fd2 fd3 fd4 fd5 fd6 fd7 fd8 fd9 fd10 fd11 : FuncData} (B : Bl mg) (G : Gs mg) (hf0 : mg "is_text" = some (.ref f0)) (F0 : D_is_text K f0 fd0) (hf1 : mg "is_name" = some (.ref f1)) (F1 : D_is_name K f1 fd1) (hf2 : mg "_law_deck" = some (.ref f2)) (F2 : D__law_deck K f2 fd2) (hf3 : mg "_law_draw" = some (.ref f3)) (F3 : D__law_draw K f3 fd3) (hf4 : mg "_law_letters" = some (.ref f4)) (F4 : D__law_letters K f4 fd4) (hf5 : mg "_law_odd" = some (.ref f5)) (F5 : D__law_odd K f5 fd5) (hf6 : mg "_law_sign" = some (.ref f6)) (F6 : D__law_sign K f6 fd6) (hf7 : mg "_law_text" = some (.ref f7)) (F7 : D__law_text K f7 fd7) (hf8 : mg "_law_word" = some (.ref f8)) (F8 : D__law_word K f8 fd8) (hf9 : mg "_law_are" = some (.ref f9)) (F9 : D__law_are K f9 fd9) (hf10 : mg "_law_right" = some (.ref f10)) (F10 : D__law_right K f10 fd10) (hf11 : mg "law" = some (.ref f11)) (F11 : D_law K f11 fd11) : ∀ n, Fds P w K mg base n
  | 0 => by
    have b0 : Binds K fd0 ["thing"] [] := F0.bindsN fun _ _ _ _ _ _ us hl => match us, hl with | [_], _ => rfl
    have b1 : Binds K fd1 ["thing"] [] := F1.bindsN fun _ _ _ _ _ _ us hl => match us, hl with | [_], _ => rfl
    have b2 : Binds K fd2 ["_law_script"] [] := F2.bindsN fun _ _ _ _ _ _ us hl => match us, hl with | [_], _ => rfl
    have b3 : Binds K fd3 ["_law_deck_here", "_law_many"] [] := F3.bindsN fun _ _ _ _ _ _ us hl => match us, hl with | [_, _], _ => rfl
    have b4 : Binds K fd4 ["_law_deck_here", "_law_many"] [] := F4.bindsN fun _ _ _ _ _ _ us hl => match us, hl with | [_, _], _ => rfl
    have b5 : Binds K fd5 ["_law_deck_here"] [] := F5.bindsN fun _ _ _ _ _ _ us hl => match us, hl with | [_], _ => rfl
    have b6 : Binds K fd6 ["_law_deck_here"] [] := F6.bindsN fun _ _ _ _ _ _ us hl => match us, hl with | [_], _ => rfl
    have b7 : Binds K fd7 ["_law_deck_here"] [] := F7.bindsN fun _ _ _ _ _ _ us hl => match us, hl with | [_], _ => rfl
    have b8 : Binds K fd8 ["_law_deck_here"] [] := F8.bindsN fun _ _ _ _ _ _ us hl => match us, hl with | [_], _ => rfl
    have b9 : Binds K fd9 ["_law_thing", "_law_signs", "_law_least", "_law_most"] [] := F9.bindsN fun _ _ _ _ _ _ us hl => match us, hl with | [_, _, _, _], _ => rfl
    have b10 : Binds K fd10 ["_law_thing"] [] := F10.bindsN fun _ _ _ _ _ _ us hl => match us, hl with | [_], _ => rfl
    have b11 : Binds K fd11 ["_law_script"] [] := F11.bindsN fun _ _ _ _ _ _ us hl => match us, hl with | [_], _ => rfl
    exact ⟨⟨f0, fd0, _, fn_m0, hf0, F0.kp, b0⟩, ⟨f1, fd1, _, fn_m0, hf1, F1.kp, b1⟩, ⟨f2, fd2, _, fn_m0, hf2, F2.kp, b2⟩, ⟨f3, fd3, _, fn_m0, hf3, F3.kp, b3⟩, ⟨f4, fd4, _, fn_m0, hf4, F4.kp, b4⟩, ⟨f5, fd5, _, fn_m0, hf5, F5.kp, b5⟩, ⟨f6, fd6, _, fn_m0, hf6, F6.kp, b6⟩, ⟨f7, fd7, _, fn_m0, hf7, F7.kp, b7⟩, ⟨f8, fd8, _, fn_m0, hf8, F8.kp, b8⟩, ⟨f9, fd9, _, fn_m0, hf9, F9.kp, b9⟩, ⟨f10, fd10, _, fn_m0, hf10, F10.kp, b10⟩, ⟨f11, fd11, _, fn_m0, hf11, F11.kp, b11⟩⟩
  | n + 1 => by
    have b0 : Binds K fd0 ["thing"] [] := F0.bindsN fun _ _ _ _ _ _ us hl => match us, hl with | [_], _ => rfl
    have b1 : Binds K fd1 ["thing"] [] := F1.bindsN fun _ _ _ _ _ _ us hl => match us, hl with | [_], _ => rfl
    have b2 : Binds K fd2 ["_law_script"] [] := F2.bindsN fun _ _ _ _ _ _ us hl => match us, hl with | [_], _ => rfl
    have b3 : Binds K fd3 ["_law_deck_here", "_law_many"] [] := F3.bindsN fun _ _ _ _ _ _ us hl => match us, hl with | [_, _], _ => rfl
    have b4 : Binds K fd4 ["_law_deck_here", "_law_many"] [] := F4.bindsN fun _ _ _ _ _ _ us hl => match us, hl with | [_, _], _ => rfl
    have b5 : Binds K fd5 ["_law_deck_here"] [] := F5.bindsN fun _ _ _ _ _ _ us hl => match us, hl with | [_], _ => rfl
    have b6 : Binds K fd6 ["_law_deck_here"] [] := F6.bindsN fun _ _ _ _ _ _ us hl => match us, hl with | [_], _ => rfl
    have b7 : Binds K fd7 ["_law_deck_here"] [] := F7.bindsN fun _ _ _ _ _ _ us hl => match us, hl with | [_], _ => rfl
    have b8 : Binds K fd8 ["_law_deck_here"] [] := F8.bindsN fun _ _ _ _ _ _ us hl => match us, hl with | [_], _ => rfl
    have b9 : Binds K fd9 ["_law_thing", "_law_signs", "_law_least", "_law_most"] [] := F9.bindsN fun _ _ _ _ _ _ us hl => match us, hl with | [_, _, _, _], _ => rfl
    have b10 : Binds K fd10 ["_law_thing"] [] := F10.bindsN fun _ _ _ _ _ _ us hl => match us, hl with | [_], _ => rfl
    have b11 : Binds K fd11 ["_law_script"] [] := F11.bindsN fun _ _ _ _ _ _ us hl => match us, hl with | [_], _ => rfl
    have C := all B G hf0 F0 hf1 F1 hf2 F2 hf3 F3 hf4 F4 hf5 F5 hf6 F6 hf7 F7 hf8 F8 hf9 F9 hf10 F10 hf11 F11 n
    exact ⟨⟨f0, fd0, _, o_is_text B G C F0, hf0, F0.kp, b0⟩, ⟨f1, fd1, _, o_is_name B G C F1, hf1, F1.kp, b1⟩, ⟨f2, fd2, _, o__law_deck B G C F2, hf2, F2.kp, b2⟩, ⟨f3, fd3, _, o__law_draw B G C F3, hf3, F3.kp, b3⟩, ⟨f4, fd4, _, o__law_letters B G C F4, hf4, F4.kp, b4⟩, ⟨f5, fd5, _, o__law_odd B G C F5, hf5, F5.kp, b5⟩, ⟨f6, fd6, _, o__law_sign B G C F6, hf6, F6.kp, b6⟩, ⟨f7, fd7, _, o__law_text B G C F7, hf7, F7.kp, b7⟩, ⟨f8, fd8, _, o__law_word B G C F8, hf8, F8.kp, b8⟩, ⟨f9, fd9, _, o__law_are B G C F9, hf9, F9.kp, b9⟩, ⟨f10, fd10, _, o__law_right B G C F10, hf10, F10.kp, b10⟩, ⟨f11, fd11, _, o_law B G C F11, hf11, F11.kp, b11⟩⟩
end
end Mx.K01

set_option linter.all false
set_option maxRecDepth 100000
set_option maxHeartbeats 4000000
namespace Mx.K01
open Mx L2 PySem
theorem dr (n : Nat) : DrS (Fn (n + 1) 3) := draw_S
section
variable {S : Sto} {D C m n : Nat}
theorem sign_ok (hd : Dk S D C m) (hm : m < 2 ^ 40) : Dw (Fn (n + 2) 6 [.loc D] S) S D C (m + 1) fun v _ => ∃ c, v = .str [c] := by
  rw [fn__law_sign]
  refine dw_trm hd.ltD hd.ltC ?_ fun _ _ p _ _ _ => p
  have hl : (cs " !\"#$&'()*+,-./0123456789:;<=>?@ABCDEFGHIJKLMNOPQRSTUVWXYZ[\\]^_`abcdefghijklmnopqrstuvwxyz{|}~\n").length = 95 := by decide +kernel
  unfold Dw runF b__law_sign
  simp only [List.length_cons, List.length_nil, List.map_cons, List.map_nil, Nat.zero_add, Nat.reduceAdd, Nat.reduceSub, Nat.reduceLeDiff, List.replicate, List.cons_append, List.nil_append, if_true, ite_true, and_self, true_and, sSeq, sAsg, sRet, sIf, sNx, sExp, mC, mOp, mUn, mVar, mCall, mCons, mNil, mLst, mTup, mNew, mSl, mNoPart, mPart, mJoin, mLc, mRng1, mRng2, tgM, tgMs, wp_bind, wp_ok, Option.bind, Src.size, wip, asL, lim_v, List.set_cons_succ, List.set_cons_zero, List.getElem?_cons_zero, List.getElem?_cons_succ, gPlus, gAdd]
  refine (dr n).go hd hm (by decide) (by decide) fun i S2 h0 h1 d2 k2 => ?_
  obtain ⟨c, c1, c2, c3⟩ := atI_nat (xs := cs " !\"#$&'()*+,-./0123456789:;<=>?@ABCDEFGHIJKLMNOPQRSTUVWXYZ[\\]^_`abcdefghijklmnopqrstuvwxyz{|}~\n") h0 (by rw [hl]; omega)
  simp only [List.length_cons, List.length_nil, List.map_cons, List.map_nil, Nat.zero_add, Nat.reduceAdd, Nat.reduceSub, Nat.reduceLeDiff, List.replicate, List.cons_append, List.nil_append, if_true, ite_true, and_self, true_and, sSeq, sAsg, sRet, sIf, sNx, sExp, mC, mOp, mUn, mVar, mCall, mCons, mNil, mLst, mTup, mNew, mSl, mNoPart, mPart, mJoin, mLc, mRng1, mRng2, tgM, tgMs, wp_bind, wp_ok, Option.bind, Src.size, wip, asL, lim_v, List.set_cons_succ, List.set_cons_zero, List.getElem?_cons_zero, List.getElem?_cons_succ, gPlus, gAdd, gIx, hl, c1]
  exact ⟨d2, k2, c, rfl⟩
theorem letters_ok {k : Nat} (hd : Dk S D C m) (hm : m + k < 2 ^ 40) (hk : k ≤ 10000) : Dw (Fn (n + 2) 4 [.loc D, .int k] S) S D C (m + k) fun v _ => ∃ z, v = .str z ∧ z.length = k := by
  rw [fn__law_letters]
  refine dw_trm hd.ltD hd.ltC ?_ fun _ _ p _ _ _ => p
  have hl : (cs "abcdefghijklmnopqrstuvwxyz").length = 26 := by decide +kernel
  unfold Dw runF b__law_letters
  have hk2 : (k : Int).natAbs ≤ 100000 := by omega
  have hk3 : (k : Int).toNat = k := by omega
  have hk4 : (upTo 0 k).length = k := upTo_len
  have c0 : cs "" = [] := rfl
  simp only [List.length_cons, List.length_nil, List.map_cons, List.map_nil, Nat.zero_add, Nat.reduceAdd, Nat.reduceSub, Nat.reduceLeDiff, List.replicate, List.cons_append, List.nil_append, if_true, ite_true, and_self, true_and, sSeq, sAsg, sRet, sIf, sNx, sExp, mC, mOp, mUn, mVar, mCall, mCons, mNil, mLst, mTup, mNew, mSl, mNoPart, mPart, mJoin, mLc, mRng1, mRng2, tgM, tgMs, wp_bind, wp_ok, Option.bind, Src.size, wip, asL, lim_v, List.set_cons_succ, List.set_cons_zero, List.getElem?_cons_zero, List.getElem?_cons_succ, gPlus, gAdd, hk2, hk3, hk4, c0]
  refine Wp.mono (draws_chr (dr n) (by rw [hl]; rfl) (by rw [hl, lim_v]; decide) (by decide) rfl (by decide) hd (by omega) (by rw [lim_v]; omega)) fun ys S2 ⟨d2, k2, w, e, w1, w2⟩ => ?_
  rw [e, join_chr (by rw [w1, lim_v]; omega)]
  exact ⟨d2, k2, w, rfl, w1⟩
theorem text_ok (hd : Dk S D C m) (hm : m < 2 ^ 39) : Dw (Fn (n + 3) 7 [.loc D] S) S D C (m + 100) fun v _ => ∃ z, v = .str z ∧ z.length ≤ lim := by
  rw [fn__law_text]
  refine dw_trm hd.ltD hd.ltC ?_ fun _ _ p _ _ _ => p
  have hl : (cs " abcdefghijklmnopqrstuvwxyz").length = 27 := by decide +kernel
  have c0 : cs "" = [] := rfl
  unfold Dw runF b__law_text
  simp only [List.length_cons, List.length_nil, List.map_cons, List.map_nil, Nat.zero_add, Nat.reduceAdd, Nat.reduceSub, Nat.reduceLeDiff, List.replicate, List.cons_append, List.nil_append, if_true, ite_true, and_self, true_and, sSeq, sAsg, sRet, sIf, sNx, sExp, mC, mOp, mUn, mVar, mCall, mCons, mNil, mLst, mTup, mNew, mSl, mNoPart, mPart, mJoin, mLc, mRng1, mRng2, tgM, tgMs, wp_bind, wp_ok, Option.bind, Src.size, wip, asL, lim_v, List.set_cons_succ, List.set_cons_zero, List.getElem?_cons_zero, List.getElem?_cons_succ, gPlus, gAdd]
  refine (dr (n + 1)).go hd (by omega) (by decide) (by decide) fun i1 S1 g1 h1 d1 k1 => ?_
  refine (dr (n + 1)).go d1 (by omega) (by decide) (by decide) fun i2 S2 g2 h2 d2 k2 => ?_
  refine (dr (n + 1)).go d2 (by omega) (by decide) (by decide) fun i3 S3 g3 h3 d3 k3 => ?_
  simp only [List.length_cons, List.length_nil, List.map_cons, List.map_nil, Nat.zero_add, Nat.reduceAdd, Nat.reduceSub, Nat.reduceLeDiff, List.replicate, List.cons_append, List.nil_append, if_true, ite_true, and_self, true_and, sSeq, sAsg, sRet, sIf, sNx, sExp, mC, mOp, mUn, mVar, mCall, mCons, mNil, mLst, mTup, mNew, mSl, mNoPart, mPart, mJoin, mLc, mRng1, mRng2, tgM, tgMs, wp_bind, wp_ok, Option.bind, Src.size, wip, asL, lim_v, List.set_cons_succ, List.set_cons_zero, List.getElem?_cons_zero, List.getElem?_cons_succ, gPlus, gAdd]
  refine (dr (n + 1)).go d3.app (by omega) (by decide) (by decide) fun i4 S4 g4 h4 d4 k4 => ?_
  have e4 : S4[S3.length]? = some (.lst [.int i1, .int i2, .int (199 + i3)]) := by
    rw [k4.get S3.length (by rw [List.length_append]; simp) (by have := d3.ltD; omega) (by have := d3.ltC; omega)]
    exact app_new
  obtain ⟨a, a1, a2, a3⟩ : ∃ a : Int, atI [Val.int i1, .int i2, .int (199 + i3)] i4 = some (.int a) ∧ 0 ≤ a ∧ a < 206 := by
    have : i4 = 0 ∨ i4 = 1 ∨ i4 = 2 := by omega
    rcases this with rfl | rfl | rfl
    · exact ⟨i1, rfl, by omega, by omega⟩
    · exact ⟨i2, rfl, by omega, by omega⟩
    · exact ⟨199 + i3, rfl, by omega, by omega⟩
  simp only [List.length_cons, List.length_nil, List.map_cons, List.map_nil, Nat.zero_add, Nat.reduceAdd, Nat.reduceSub, Nat.reduceLeDiff, List.replicate, List.cons_append, List.nil_append, if_true, ite_true, and_self, true_and, sSeq, sAsg, sRet, sIf, sNx, sExp, mC, mOp, mUn, mVar, mCall, mCons, mNil, mLst, mTup, mNew, mSl, mNoPart, mPart, mJoin, mLc, mRng1, mRng2, tgM, tgMs, wp_bind, wp_ok, Option.bind, Src.size, wip, asL, lim_v, List.set_cons_succ, List.set_cons_zero, List.getElem?_cons_zero, List.getElem?_cons_succ, gPlus, gAdd, gIx, e4, a1]
  refine (dr (n + 1)).go d4 (by omega) (by decide) (by decide) fun i5 S5 g5 h5 d5 k5 => ?_
  obtain ⟨q, rfl⟩ : ∃ q : Nat, i5 = q := ⟨i5.toNat, by omega⟩
  have hq2 : (1 + (q : Int)).natAbs ≤ 100000 := by omega
  have hq3 : (1 + (q : Int)).toNat = 1 + q := by omega
  have hq4 : (upTo 0 (1 + q)).length = 1 + q := upTo_len
  simp only [List.length_cons, List.length_nil, List.map_cons, List.map_nil, Nat.zero_add, Nat.reduceAdd, Nat.reduceSub, Nat.reduceLeDiff, List.replicate, List.cons_append, List.nil_append, if_true, ite_true, and_self, true_and, sSeq, sAsg, sRet, sIf, sNx, sExp, mC, mOp, mUn, mVar, mCall, mCons, mNil, mLst, mTup, mNew, mSl, mNoPart, mPart, mJoin, mLc, mRng1, mRng2, tgM, tgMs, wp_bind, wp_ok, Option.bind, Src.size, wip, asL, lim_v, List.set_cons_succ, List.set_cons_zero, List.getElem?_cons_zero, List.getElem?_cons_succ, gPlus, gAdd, hq2, hq3, hq4, c0]
  refine Wp.mono (draws_chr (dr (n + 1)) (by rw [hl]; rfl) (by rw [hl, lim_v]; decide) (by decide) rfl (by decide) d5 (by omega) (by rw [lim_v]; omega)) fun ys S6 ⟨d6, k6, w, e, w1, w2⟩ => ?_
  rw [e, join_chr (by rw [w1, lim_v]; omega)]
  have m1 : w.length * (206 : Int).toNat ≤ 100000 ∧ (206 : Int).natAbs ≤ 100000 := by
    rw [w1]
    refine ⟨?_, by decide⟩
    show (1 + q) * 206 ≤ 100000
    omega
  have m2 : (List.replicate (206 : Int).toNat w).flatten.length = 206 * w.length := flat_len _ _
  have m3 : (List.replicate (206 : Int).toNat w).flatten.length ≤ 100000 := by rw [m2]; omega
  obtain ⟨t, ht⟩ : ∃ t, t = cut (List.replicate (206 : Int).toNat w).flatten none (some a) := ⟨_, rfl⟩
  have t1 : t.length ≤ 2000 := by
    have := cut_len (List.replicate (206 : Int).toNat w).flatten none (some a)
    rw [← ht] at this
    omega
  have t2 : t.length ≤ 100000 := by omega
  simp only [List.length_cons, List.length_nil, List.map_cons, List.map_nil, Nat.zero_add, Nat.reduceAdd, Nat.reduceSub, Nat.reduceLeDiff, List.replicate, List.cons_append, List.nil_append, if_true, ite_true, and_self, true_and, sSeq, sAsg, sRet, sIf, sNx, sExp, mC, mOp, mUn, mVar, mCall, mCons, mNil, mLst, mTup, mNew, mSl, mNoPart, mPart, mJoin, mLc, mRng1, mRng2, tgM, tgMs, wp_bind, wp_ok, Option.bind, Src.size, wip, asL, lim_v, List.set_cons_succ, List.set_cons_zero, List.getElem?_cons_zero, List.getElem?_cons_succ, gPlus, gAdd, gLen, gMul, gSl, m1, m3, ← ht, t2]
  refine (dr (n + 1)).go d6 (by omega) (by omega) (by omega) fun i7 S7 g7 h7 d7 k7 => ?_
  simp only [List.length_cons, List.length_nil, List.map_cons, List.map_nil, Nat.zero_add, Nat.reduceAdd, Nat.reduceSub, Nat.reduceLeDiff, List.replicate, List.cons_append, List.nil_append, if_true, ite_true, and_self, true_and, sSeq, sAsg, sRet, sIf, sNx, sExp, mC, mOp, mUn, mVar, mCall, mCons, mNil, mLst, mTup, mNew, mSl, mNoPart, mPart, mJoin, mLc, mRng1, mRng2, tgM, tgMs, wp_bind, wp_ok, Option.bind, Src.size, wip, asL, lim_v, List.set_cons_succ, List.set_cons_zero, List.getElem?_cons_zero, List.getElem?_cons_succ, gPlus, gAdd, gSl, t2]
  refine Wp.mono (sign_ok d7 (by omega)) fun v8 S8 ⟨d8, k8, c, e8⟩ => ?_
  subst e8
  refine (dr (n + 1)).go d8 (by omega) (by decide) (by decide) fun i9 S9 g9 h9 d9 k9 => ?_
  have y0 : i9 / 2 = 0 ∨ i9 / 2 = 1 := by omega
  have y1 : 1 * (i9 / 2).toNat ≤ 100000 := by omega
  have y4 : (i9 / 2).natAbs ≤ 100000 := by omega
  have y2 : (List.replicate (i9 / 2).toNat [c]).flatten.length ≤ 1 := by rw [flat_len, List.length_singleton]; omega
  have z1 := cut_len t none (some i7)
  have z2 := cut_len t (some i7) none
  have z3 : (cut t none (some i7)).length + (List.replicate (i9 / 2).toNat [c]).flatten.length ≤ 100000 := by omega
  have z4 : (cut t none (some i7) ++ (List.replicate (i9 / 2).toNat [c]).flatten).length + (cut t (some i7) none).length ≤ 100000 := by rw [List.length_append]; omega
  have y3 : (0 : Int) < 2 ∧ (2 : Int).natAbs < 2 ^ 64 := by decide
  simp only [List.length_cons, List.length_nil, List.map_cons, List.map_nil, Nat.zero_add, Nat.reduceAdd, Nat.reduceSub, Nat.reduceLeDiff, List.replicate, List.cons_append, List.nil_append, if_true, ite_true, and_self, true_and, sSeq, sAsg, sRet, sIf, sNx, sExp, mC, mOp, mUn, mVar, mCall, mCons, mNil, mLst, mTup, mNew, mSl, mNoPart, mPart, mJoin, mLc, mRng1, mRng2, tgM, tgMs, wp_bind, wp_ok, Option.bind, Src.size, wip, asL, lim_v, List.set_cons_succ, List.set_cons_zero, List.getElem?_cons_zero, List.getElem?_cons_succ, gPlus, gAdd, gDiv, gMul, y3, y1, y4, z3, z4, gSl, t2]
  refine ⟨d9.le (by omega), k1.trans (k2.trans (k3.trans (Kp.app.trans (k4.trans (k5.trans (k6.trans (k7.trans (k8.trans k9)))))))), _, rfl, ?_⟩
  rw [List.length_append, List.length_append]; omega
theorem word_ok (hd : Dk S D C m) (hm : m < 2 ^ 39) : Dw (Fn (n + 3) 8 [.loc D] S) S D C (m + 100) fun v _ => ∃ z, v = .str z ∧ z.length ≤ lim := by
  rw [fn__law_word]
  refine dw_trm hd.ltD hd.ltC ?_ fun _ _ p _ _ _ => p
  unfold Dw runF b__law_word
  simp only [List.length_cons, List.length_nil, List.map_cons, List.map_nil, Nat.zero_add, Nat.reduceAdd, Nat.reduceSub, Nat.reduceLeDiff, List.replicate, List.cons_append, List.nil_append, if_true, ite_true, and_self, true_and, sSeq, sAsg, sRet, sIf, sNx, sExp, mC, mOp, mUn, mVar, mCall, mCons, mNil, mLst, mTup, mNew, mSl, mNoPart, mPart, mJoin, mLc, mRng1, mRng2, tgM, tgMs, wp_bind, wp_ok, Option.bind, Src.size, wip, asL, lim_v, List.set_cons_succ, List.set_cons_zero, List.getElem?_cons_zero, List.getElem?_cons_succ, gPlus, gAdd]
  refine (dr (n + 1)).go hd (by omega) (by decide) (by decide) fun i1 S1 g1 h1 d1 k1 => ?_
  obtain ⟨q, rfl⟩ : ∃ q : Nat, i1 = q := ⟨i1.toNat, by omega⟩
  refine Wp.mono (letters_ok d1 (by omega) (by omega)) fun v2 S2 ⟨d2, k2, z, e2, z1⟩ => ?_
  subst e2
  have z2 : z.length ≤ 100000 := by omega
  simp only [List.length_cons, List.length_nil, List.map_cons, List.map_nil, Nat.zero_add, Nat.reduceAdd, Nat.reduceSub, Nat.reduceLeDiff, List.replicate, List.cons_append, List.nil_append, if_true, ite_true, and_self, true_and, sSeq, sAsg, sRet, sIf, sNx, sExp, mC, mOp, mUn, mVar, mCall, mCons, mNil, mLst, mTup, mNew, mSl, mNoPart, mPart, mJoin, mLc, mRng1, mRng2, tgM, tgMs, wp_bind, wp_ok, Option.bind, Src.size, wip, asL, lim_v, List.set_cons_succ, List.set_cons_zero, List.getElem?_cons_zero, List.getElem?_cons_succ, gPlus, gAdd, gLen, z2]
  refine (dr (n + 1)).go d2 (by omega) (by omega) (by omega) fun i3 S3 g3 h3 d3 k3 => ?_
  refine Wp.mono (sign_ok d3 (by omega)) fun v4 S4 ⟨d4, k4, c, e4⟩ => ?_
  subst e4
  refine (dr (n + 1)).go d4 (by omega) (by decide) (by decide) fun i5 S5 g5 h5 d5 k5 => ?_
  have K := k1.trans (k2.trans (k3.trans (k4.trans k5)))
  have hv : ∀ e1 e2 e3 e4 S0 k, mEq false datE datE (mVar 4) (mC (.int k)) [e1, e2, e3, e4, some (.int i5)] S0 = .ok (i5 == k) S0 := fun _ _ _ _ _ _ => eq_int rfl rfl
  have c1 := cut_len z none (some i3)
  have c2 := cut_len z (some i3) none
  have c3 := cut_len z (some (i3 + 1)) none
  have f1 : (cut z none (some i3)).length + 1 ≤ 100000 := by omega
  have f2 : (cut z none (some i3) ++ [c]).length + (cut z (some i3) none).length ≤ 100000 := by rw [List.length_append, List.length_singleton]; omega
  have f3 : (cut z none (some i3) ++ [c]).length + (cut z (some (i3 + 1)) none).length ≤ 100000 := by rw [List.length_append, List.length_singleton]; omega
  have f4 : (cut z none (some i3)).length + (cut z (some (i3 + 1)) none).length ≤ 100000 := by omega
  simp only [List.length_cons, List.length_nil, List.map_cons, List.map_nil, Nat.zero_add, Nat.reduceAdd, Nat.reduceSub, Nat.reduceLeDiff, List.replicate, List.cons_append, List.nil_append, if_true, ite_true, and_self, true_and, sSeq, sAsg, sRet, sIf, sNx, sExp, mC, mOp, mUn, mVar, mCall, mCons, mNil, mLst, mTup, mNew, mSl, mNoPart, mPart, mJoin, mLc, mRng1, mRng2, tgM, tgMs, wp_bind, wp_ok, Option.bind, Src.size, wip, asL, lim_v, List.set_cons_succ, List.set_cons_zero, List.getElem?_cons_zero, List.getElem?_cons_succ, gPlus, gAdd, hv]
  refine wp_if (fun _ => ?_) fun _ => ?_
  · simp only [List.length_cons, List.length_nil, List.map_cons, List.map_nil, Nat.zero_add, Nat.reduceAdd, Nat.reduceSub, Nat.reduceLeDiff, List.replicate, List.cons_append, List.nil_append, if_true, ite_true, and_self, true_and, sSeq, sAsg, sRet, sIf, sNx, sExp, mC, mOp, mUn, mVar, mCall, mCons, mNil, mLst, mTup, mNew, mSl, mNoPart, mPart, mJoin, mLc, mRng1, mRng2, tgM, tgMs, wp_bind, wp_ok, Option.bind, Src.size, wip, asL, lim_v, List.set_cons_succ, List.set_cons_zero, List.getElem?_cons_zero, List.getElem?_cons_succ, gPlus, gAdd, gSl, z2, f1, f2]
    exact ⟨d5.le (by omega), K, _, rfl, by rw [List.length_append]; exact f2⟩
  simp only [List.length_cons, List.length_nil, List.map_cons, List.map_nil, Nat.zero_add, Nat.reduceAdd, Nat.reduceSub, Nat.reduceLeDiff, List.replicate, List.cons_append, List.nil_append, if_true, ite_true, and_self, true_and, sSeq, sAsg, sRet, sIf, sNx, sExp, mC, mOp, mUn, mVar, mCall, mCons, mNil, mLst, mTup, mNew, mSl, mNoPart, mPart, mJoin, mLc, mRng1, mRng2, tgM, tgMs, wp_bind, wp_ok, Option.bind, Src.size, wip, asL, lim_v, List.set_cons_succ, List.set_cons_zero, List.getElem?_cons_zero, List.getElem?_cons_succ, gPlus, gAdd, hv]
  refine wp_if (fun _ => ?_) fun _ => ?_
  · simp only [List.length_cons, List.length_nil, List.map_cons, List.map_nil, Nat.zero_add, Nat.reduceAdd, Nat.reduceSub, Nat.reduceLeDiff, List.replicate, List.cons_append, List.nil_append, if_true, ite_true, and_self, true_and, sSeq, sAsg, sRet, sIf, sNx, sExp, mC, mOp, mUn, mVar, mCall, mCons, mNil, mLst, mTup, mNew, mSl, mNoPart, mPart, mJoin, mLc, mRng1, mRng2, tgM, tgMs, wp_bind, wp_ok, Option.bind, Src.size, wip, asL, lim_v, List.set_cons_succ, List.set_cons_zero, List.getElem?_cons_zero, List.getElem?_cons_succ, gPlus, gAdd, gSl, z2, f1, f3]
    exact ⟨d5.le (by omega), K, _, rfl, by rw [List.length_append]; exact f3⟩
  simp only [List.length_cons, List.length_nil, List.map_cons, List.map_nil, Nat.zero_add, Nat.reduceAdd, Nat.reduceSub, Nat.reduceLeDiff, List.replicate, List.cons_append, List.nil_append, if_true, ite_true, and_self, true_and, sSeq, sAsg, sRet, sIf, sNx, sExp, mC, mOp, mUn, mVar, mCall, mCons, mNil, mLst, mTup, mNew, mSl, mNoPart, mPart, mJoin, mLc, mRng1, mRng2, tgM, tgMs, wp_bind, wp_ok, Option.bind, Src.size, wip, asL, lim_v, List.set_cons_succ, List.set_cons_zero, List.getElem?_cons_zero, List.getElem?_cons_succ, gPlus, gAdd, hv]
  refine wp_if (fun _ => ?_) fun _ => ?_
  · simp only [List.length_cons, List.length_nil, List.map_cons, List.map_nil, Nat.zero_add, Nat.reduceAdd, Nat.reduceSub, Nat.reduceLeDiff, List.replicate, List.cons_append, List.nil_append, if_true, ite_true, and_self, true_and, sSeq, sAsg, sRet, sIf, sNx, sExp, mC, mOp, mUn, mVar, mCall, mCons, mNil, mLst, mTup, mNew, mSl, mNoPart, mPart, mJoin, mLc, mRng1, mRng2, tgM, tgMs, wp_bind, wp_ok, Option.bind, Src.size, wip, asL, lim_v, List.set_cons_succ, List.set_cons_zero, List.getElem?_cons_zero, List.getElem?_cons_succ, gPlus, gAdd, gSl, z2, f4]
    exact ⟨d5.le (by omega), K, _, rfl, by rw [List.length_append]; exact f4⟩
  simp only [List.length_cons, List.length_nil, List.map_cons, List.map_nil, Nat.zero_add, Nat.reduceAdd, Nat.reduceSub, Nat.reduceLeDiff, List.replicate, List.cons_append, List.nil_append, if_true, ite_true, and_self, true_and, sSeq, sAsg, sRet, sIf, sNx, sExp, mC, mOp, mUn, mVar, mCall, mCons, mNil, mLst, mTup, mNew, mSl, mNoPart, mPart, mJoin, mLc, mRng1, mRng2, tgM, tgMs, wp_bind, wp_ok, Option.bind, Src.size, wip, asL, lim_v, List.set_cons_succ, List.set_cons_zero, List.getElem?_cons_zero, List.getElem?_cons_succ, gPlus, gAdd]
  exact ⟨d5.le (by omega), K, _, rfl, z2⟩
theorem odd_ok (hd : Dk S D C m) (hm : m < 2 ^ 39) : Dw (Fn (n + 2) 5 [.loc D] S) S D C (m + 100) Okv := by
  rw [fn__law_odd]
  refine dw_trm hd.ltD hd.ltC ?_ fun v S1 p l b _ => p.trm l b
  unfold Dw runF b__law_odd
  have p30 : (0 : Int) ≤ 30 ∧ (30 : Int) ≤ 1000000 ∧ (10 : Int).natAbs < 2 ^ 64 := by decide
  simp only [List.length_cons, List.length_nil, List.map_cons, List.map_nil, Nat.zero_add, Nat.reduceAdd, Nat.reduceSub, Nat.reduceLeDiff, List.replicate, List.cons_append, List.nil_append, if_true, ite_true, and_self, true_and, sSeq, sAsg, sRet, sIf, sNx, sExp, mC, mOp, mUn, mVar, mCall, mCons, mNil, mLst, mTup, mNew, mSl, mNoPart, mPart, mJoin, mLc, mRng1, mRng2, tgM, tgMs, wp_bind, wp_ok, Option.bind, Src.size, wip, asL, lim_v, List.set_cons_succ, List.set_cons_zero, List.getElem?_cons_zero, List.getElem?_cons_succ, gPlus, gAdd, List.append_assoc, List.length_append, app_at, app_at0, app_set, app_set0, Nat.add_assoc, Nat.reduceLT, asE, gNeg, gPow, p30, mCat, sApp]
  refine (dr n).go hd.app (by omega) (by decide) (by decide) fun i1 S1 g1 h1 d1 k1 => ?_
  have l1 := k1.le
  rw [List.length_append] at l1
  obtain ⟨xs, e1, e2, e3⟩ : ∃ xs, S1[S.length + 4]? = some (.lst xs) ∧ xs.length = 34 ∧ ∀ x ∈ xs, Okv x S1 := by
    refine ⟨_, (k1.get _ (by rw [List.length_append]; exact Nat.add_lt_add_left (show 4 < 5 by decide) _) (by have := hd.ltD; omega) (by have := hd.ltC; omega)).trans app_at, rfl, ?_⟩
    simp only [List.length_cons, List.length_nil] at l1
    have n0 : ∀ w : List Nat, w.length ≤ 20 → Okv (.str w) S1 := fun w h => by show w.length ≤ 100000; omega
    have n1 : ∀ k : Nat, k < 5 → Okv (.loc (S.length + k)) S1 := fun k h => by show S.length + k < S1.length; omega
    simp only [List.forall_mem_cons]
    refine ⟨trivial, trivial, trivial, trivial, trivial, trivial, trivial, trivial, n0 _ (by decide), n0 _ (by decide), n0 _ (by decide), n0 _ (by decide), n0 _ (by decide), n0 _ (by decide), n0 _ (by decide), n0 _ (by decide), n0 _ (by decide),
      n0 _ (by decide), n0 _ (by decide), n0 _ (by decide), n0 _ (by decide), n0 _ (by decide), n0 _ (by decide), n0 _ (by decide), trivial, n1 1 (by decide), n0 _ (by decide), trivial, n1 3 (by decide), trivial, trivial, trivial, trivial, trivial, fun _ h => by cases h⟩
  obtain ⟨x, x1, x2, _⟩ := atI_nat (xs := xs) g1 (by omega)
  simp only [List.length_cons, List.length_nil, List.map_cons, List.map_nil, Nat.zero_add, Nat.reduceAdd, Nat.reduceSub, Nat.reduceLeDiff, List.replicate, List.cons_append, List.nil_append, if_true, ite_true, and_self, true_and, sSeq, sAsg, sRet, sIf, sNx, sExp, mC, mOp, mUn, mVar, mCall, mCons, mNil, mLst, mTup, mNew, mSl, mNoPart, mPart, mJoin, mLc, mRng1, mRng2, tgM, tgMs, wp_bind, wp_ok, Option.bind, Src.size, wip, asL, lim_v, List.set_cons_succ, List.set_cons_zero, List.getElem?_cons_zero, List.getElem?_cons_succ, gPlus, gAdd, gIx, e1, x1]
  exact ⟨d1.le (by omega), Kp.app.trans k1, e3 x (List.mem_of_getElem? x2)⟩
/-! ### what is told of a thing -/
def told (z signs : List Nat) (lo hi : Nat) : Bool := decide (lo ≤ z.length) && decide (z.length ≤ hi) && z.all fun c => decide (c ∈ signs)
theorem chars {z : List Nat} {S : Sto} {env : Ev} {j : Nat} {t : Ev → M Bool} {e : Ev → M Val} (b : Nat → Bool) (f : Nat → Val) (hz : z.length ≤ lim)
    (h : ∀ c, t (env.set j (some (.str [c]))) S = .ok (b c) S ∧ e (env.set j (some (.str [c]))) S = .ok (f c) S) :
    compI (.vals (z.map fun c => .str [c])) (.name j) t e env z.length 0 [] S = .ok ((z.filter b).map f) S := by
  rw [compI_pure (xs := z.map fun c => Val.str [c]) (fun v => match v with | .str [c] => b c | _ => false) (fun v => match v with | .str [c] => f c | v => v) (fun _ _ => rfl) rfl (fun x hx => ?_) _ _ _ (by rw [List.length_map]; omega) (by simp only [List.length_nil]; omega)]
  · rw [List.drop_zero, List.nil_append, List.filter_map, List.map_map]
    rfl
  · obtain ⟨c, _, rfl⟩ := List.mem_map.mp hx
    exact ⟨_, rfl, (h c).1, fun _ => (h c).2⟩
theorem asBls_map (f : Nat → Bool) : ∀ z : List Nat, asBls (z.map fun c => Val.bl (f c)) = some (z.map f)
  | [] => rfl
  | c :: z => by rw [List.map_cons, asBls, asBls_map f z]; rfl
theorem all_in {z sg : List Nat} (hz : z.length ≤ lim) : mLi asL lAll (mLc (mSrc (mVar 0)) (.name 1) mYes (mBl (mTst (gIn false) (mVar 1) (mC (.str sg)))) [1]) [some (.str z), none] S = .ok (.bl (z.all fun c => decide (c ∈ sg))) S := by
  have hc := chars (S := S) (env := [some (.str z), none]) (j := 1) (t := mYes) (e := mBl (mTst (gIn false) (mVar 1) (mC (.str sg)))) (fun _ => true) (fun c => .bl (decide (c ∈ sg))) hz (fun c => ⟨rfl, rfl⟩)
  rw [List.filter_eq_self.mpr (fun _ _ => rfl)] at hc
  have hc2 : mLc (mSrc (mVar 0)) (.name 1) mYes (mBl (mTst (gIn false) (mVar 1) (mC (.str sg)))) [1] [some (.str z), none] S = .ok (z.map fun c => .bl (decide (c ∈ sg))) S := by
    show compI _ _ _ _ _ (z.map fun c => Val.str [c]).length _ _ _ = _
    rw [List.length_map]
    exact hc
  unfold mLi
  rw [hc2]
  simp only [Out.bind, asL, lAll, asBls_map, List.all_map]
  rfl
theorem is_text_str {z : List Nat} (hz : z.length ≤ lim) : Fn (n + 1) 0 [.str z] S = .ok (.bl (told z (cs " abcdefghijklmnopqrstuvwxyz") 0 200)) S := by
  rw [fn_is_text]
  refine trm_pure ?_
  unfold runF b_is_text
  have hz2 : z.length ≤ 100000 := hz
  have ht : isT "str" "str" = true := by decide
  by_cases h2 : z.length ≤ 200
  · have h3 : (z.length : Int) ≤ 200 := by omega
    simp [sRet, mAndV, mIsi, mVar, tyOf, ht, truth, Out.bind, mBl, mTst, mUn, gLen, mC, hz2, lim_v, gCmp, h2, h3, all_in hz, told]
  · have h3 : ¬ (z.length : Int) ≤ 200 := by omega
    simp [sRet, mAndV, mIsi, mVar, tyOf, ht, truth, Out.bind, mBl, mTst, mUn, gLen, mC, hz2, lim_v, gCmp, h2, h3, told]
theorem is_name_str {z : List Nat} (hz : z.length ≤ lim) : Fn (n + 1) 1 [.str z] S = .ok (.bl (told z (cs "abcdefghijklmnopqrstuvwxyz") 1 8)) S := by
  rw [fn_is_name]
  refine trm_pure ?_
  unfold runF b_is_name
  have hz2 : z.length ≤ 100000 := hz
  have ht : isT "str" "str" = true := by decide
  by_cases h1 : 1 ≤ z.length
  · have h4 : (1 : Int) ≤ (z.length : Int) := by omega
    by_cases h2 : z.length ≤ 8
    · have h3 : (z.length : Int) ≤ 8 := by omega
      simp [sRet, mAndV, mIsi, mVar, tyOf, ht, truth, Out.bind, mBl, mChn, mUn, gLen, mC, hz2, lim_v, gCmp, h1, h2, h3, h4, all_in hz, told]
    · have h3 : ¬ (z.length : Int) ≤ 8 := by omega
      simp [sRet, mAndV, mIsi, mVar, tyOf, ht, truth, Out.bind, mBl, mChn, mUn, gLen, mC, hz2, lim_v, gCmp, h1, h2, h3, h4, told]
  · have h4 : ¬ (1 : Int) ≤ (z.length : Int) := by omega
    simp [sRet, mAndV, mIsi, mVar, tyOf, ht, truth, Out.bind, mBl, mChn, mUn, gLen, mC, hz2, lim_v, gCmp, h1, h4, told]
theorem isStr_no {v : Val} {t : String} (hv : ∀ z, v ≠ .str z) (h : tyOf v S = some t) : isT t "str" = false := by
  cases v with
  | str z => exact absurd rfl (hv z)
  | ext a => cases h
  | loc k => simp only [tyOf] at h; cases e : S[k]? with
    | none => rw [e] at h; cases h
    | some o => rw [e] at h; cases h; decide
  | _ => cases h; decide
theorem is_text_no {v : Val} (hv : ∀ z, v ≠ .str z) (ho : Okv v S) : Fn (n + 1) 0 [v] S = .ok (.bl false) S := by
  rw [fn_is_text]
  refine trm_pure ?_
  unfold runF b_is_text
  obtain ⟨t, h1, _⟩ := ho.ty
  simp [sRet, mAndV, mIsi, mVar, h1, isStr_no hv h1, truth, Out.bind]
theorem is_name_no {v : Val} (hv : ∀ z, v ≠ .str z) (ho : Okv v S) : Fn (n + 1) 1 [v] S = .ok (.bl false) S := by
  rw [fn_is_name]
  refine trm_pure ?_
  unfold runF b_is_name
  obtain ⟨t, h1, _⟩ := ho.ty
  simp [sRet, mAndV, mIsi, mVar, h1, isStr_no hv h1, truth, Out.bind]
theorem are_no {v sg lo hi : Val} (hv : ∀ z, v ≠ .str z) (ho : Okv v S) : Fn (n + 1) 9 [v, sg, lo, hi] S = .ok (.bl false) S := by
  rw [fn__law_are]
  refine trm_pure ?_
  unfold runF b__law_are
  obtain ⟨t, h1, _⟩ := ho.ty
  simp [sSeq, sIf, sRet, mOr, mNot, mTru, mIsi, mVar, h1, isStr_no hv h1, truth, Out.bind, mC]
theorem are_str {z sg : List Nat} {lo hi : Nat} (hz : z.length ≤ lim) : Fn (n + 1) 9 [.str z, .str sg, .int lo, .int hi] S = .ok (.bl (told z sg lo hi)) S := by
  rw [fn__law_are]
  refine trm_pure ?_
  unfold runF b__law_are
  have hz2 : z.length ≤ 100000 := hz
  have ht : isT "str" "str" = true := by decide
  by_cases h1 : lo ≤ z.length
  · have h4 : (lo : Int) ≤ (z.length : Int) := by omega
    by_cases h2 : z.length ≤ hi
    · have h3 : (z.length : Int) ≤ hi := by omega
      have hc := chars (S := S) (env := [some (.str z), some (.str sg), some (.int lo), some (.int hi), none]) (j := 4) (t := mTst (gIn true) (mVar 4) (mVar 1)) (e := mVar 4) (fun c => !decide (c ∈ sg)) (fun c => .str [c]) hz (fun c => ⟨rfl, rfl⟩)
      have hc2 : mLc (mSrc (mVar 0)) (.name 4) (mTst (gIn true) (mVar 4) (mVar 1)) (mVar 4) [4] [some (.str z), some (.str sg), some (.int lo), some (.int hi), none] S = .ok ((z.filter fun c => !decide (c ∈ sg)).map fun c => .str [c]) S := by
        show compI _ _ _ _ _ (z.map fun c => Val.str [c]).length _ _ _ = _
        rw [List.length_map]
        exact hc
      have he := eq_nil (neg := false) hc2 (show datL _ S = some (.list ((z.filter fun c => !decide (c ∈ sg)).map fun c => PyData.str ⟨#[c]⟩)) by rw [datL, dat_chr]; rfl)
      have hb : ((z.filter fun c => !decide (c ∈ sg)).map fun c => PyData.str ⟨#[c]⟩).isEmpty = z.all fun c => decide (c ∈ sg) := by
        rw [Bool.eq_iff_iff]
        simp [List.filter_eq_nil_iff]
      rw [hb] at he
      simp [sSeq, sIf, sNx, sRet, mOr, mNot, mTru, mIsi, mVar, tyOf, ht, truth, Out.bind, mC, mChn, mUn, gLen, gCmp, hz2, lim_v, h1, h2, h3, h4, mBl, told]
      simp [mVar] at he
      rw [he]
    · have h3 : ¬ (z.length : Int) ≤ hi := by omega
      simp [sSeq, sIf, sRet, mOr, mNot, mTru, mIsi, mVar, tyOf, ht, truth, Out.bind, mC, mChn, mUn, gLen, gCmp, hz2, lim_v, h1, h2, h3, h4, told]
  · have h4 : ¬ (lo : Int) ≤ (z.length : Int) := by omega
    simp [sSeq, sIf, sRet, mOr, mNot, mTru, mIsi, mVar, tyOf, ht, truth, Out.bind, mC, mChn, mUn, gLen, gCmp, hz2, lim_v, h1, h4, told]
theorem right_ok {v : Val} (ho : Okv v S) : Fn (n + 2) 10 [v] S = .ok (.bl true) S := by
  rw [fn__law_right]
  refine trm_pure ?_
  unfold runF b__law_right
  have hb : isT "bool" "bool" = true := by decide
  have c1 : ∀ a b : List Nat, a.length + b.length ≤ 100000 → gPlus (.str a) (.str b) S = .ok (.str (a ++ b)) S := fun a b h => by
    simp only [gPlus, gAdd]
    rw [if_pos (by rw [lim_v]; exact h)]
  have c2 := c1 (cs " ") (cs "abcdefghijklmnopqrstuvwxyz") (by decide +kernel)
  have c3 : cs " " ++ cs "abcdefghijklmnopqrstuvwxyz" = cs " abcdefghijklmnopqrstuvwxyz" := by decide +kernel
  rw [c3] at c2
  obtain ⟨b1, b2, q1, q2, q3, q4⟩ : ∃ b1 b2, Fn (n + 1) 0 [v] S = .ok (.bl b1) S ∧ Fn (n + 1) 1 [v] S = .ok (.bl b2) S ∧ Fn (n + 1) 9 [v, .str (cs " abcdefghijklmnopqrstuvwxyz"), .int 0, .int 200] S = .ok (.bl b1) S ∧ Fn (n + 1) 9 [v, .str (cs "abcdefghijklmnopqrstuvwxyz"), .int 1, .int 8] S = .ok (.bl b2) S := by
    by_cases hs : ∃ z, v = .str z
    · obtain ⟨z, rfl⟩ := hs
      exact ⟨_, _, is_text_str ho, is_name_str ho, are_str (lo := 0) (hi := 200) ho, are_str (lo := 1) (hi := 8) ho⟩
    · have hv : ∀ z, v ≠ .str z := fun z e => hs ⟨z, e⟩
      exact ⟨_, _, is_text_no hv ho, is_name_no hv ho, are_no hv ho, are_no hv ho⟩
  have w1 : ∀ e1, mEq false datE datE (mVar 2) (mCall (Fn (n + 1) 9) (mCons (mVar 0) (mCons (mOp gPlus (mC (.str (cs " "))) (mVar 1)) (mCons (mC (.int 0)) (mCons (mC (.int 200)) mNil))))) [some v, some (.str (cs "abcdefghijklmnopqrstuvwxyz")), some (.bl b1), e1] S = .ok (b1 == b1) S := fun _ => eq_bl rfl (by simp [mCall, mCons, mVar, mOp, mC, mNil, Out.bind, c2, q3])
  have w2 : ∀ e1, mEq false datE datE (mVar 3) (mCall (Fn (n + 1) 9) (mCons (mVar 0) (mCons (mVar 1) (mCons (mC (.int 1)) (mCons (mC (.int 8)) mNil))))) [some v, some (.str (cs "abcdefghijklmnopqrstuvwxyz")), e1, some (.bl b2)] S = .ok (b2 == b2) S := fun _ => eq_bl rfl (by simp [mCall, mCons, mVar, mOp, mC, mNil, Out.bind, q4])
  simp [sSeq, sAsg, sIf, sNx, sRet, mOr, mNot, mTru, mIsi, mVar, tyOf, hb, truth, Out.bind, mC, mCall, mCons, mNil, tgM, q1, q2, mAndV, mBl]
  simp [mCall, mCons, mVar, mC, mNil] at w1 w2
  simp [w1, w2, truth, Out.bind]
theorem law_true (ns : List Int) (h : ns.length ≤ 63) : ∃ S, Fn 60 11 [.kl (ns.map Val.int)] [] = .ok (.bl true) S := by
  suffices w : Wp (Fn 60 11 [.kl (ns.map Val.int)] []) fun v _ => v = .bl true by
    obtain ⟨a, S, e, rfl⟩ := w.ex
    exact ⟨S, e⟩
  rw [fn_law]
  refine wp_trm ?_ fun _ _ p _ _ => p
  obtain ⟨S0, e0, d0, l0⟩ := deck_ok h
  have e0' : Fn 59 2 [.kl (ns.map Val.int)] [] = .ok (.loc 2) S0 := e0
  unfold runF b_law
  simp only [List.length_cons, List.length_nil, List.map_cons, List.map_nil, Nat.zero_add, Nat.reduceAdd, Nat.reduceSub, Nat.reduceLeDiff, List.replicate, List.cons_append, List.nil_append, if_true, ite_true, and_self, true_and, sSeq, sAsg, sRet, sIf, sNx, sExp, mC, mOp, mUn, mVar, mCall, mCons, mNil, mLst, mTup, mNew, mSl, mNoPart, mPart, mJoin, mLc, mRng1, mRng2, tgM, tgMs, wp_bind, wp_ok, Option.bind, Src.size, wip, asL, lim_v, List.set_cons_succ, List.set_cons_zero, List.getElem?_cons_zero, List.getElem?_cons_succ, gPlus, gAdd, e0', sFor]
  have r4 : (4 : Int).natAbs ≤ 100000 := by decide
  simp only [List.length_cons, List.length_nil, List.map_cons, List.map_nil, Nat.zero_add, Nat.reduceAdd, Nat.reduceSub, Nat.reduceLeDiff, List.replicate, List.cons_append, List.nil_append, if_true, ite_true, and_self, true_and, sSeq, sAsg, sRet, sIf, sNx, sExp, mC, mOp, mUn, mVar, mCall, mCons, mNil, mLst, mTup, mNew, mSl, mNoPart, mPart, mJoin, mLc, mRng1, mRng2, tgM, tgMs, wp_bind, wp_ok, Option.bind, Src.size, wip, asL, lim_v, List.set_cons_succ, List.set_cons_zero, List.getElem?_cons_zero, List.getElem?_cons_succ, gPlus, gAdd, r4]
  have hu : (upTo 0 (4 : Int).toNat).length = 4 := rfl
  rw [hu]
  refine Wp.mono (forI_inv (xs := upTo 0 (4 : Int).toNat) (fun i env S => ∃ t x xs, env = [some (.kl (ns.map Val.int)), some (.loc 2), some (.loc t), x, none] ∧ S[t]? = some (.lst xs) ∧ t ≠ 2 ∧ t ≠ 1 ∧ Dk S 2 1 (i * 300) ∧ xs.length = 3 * i ∧ ∀ x ∈ xs, Okv x S)
    (fun q S => ∃ t x xs, q = (.nx, [some (.kl (ns.map Val.int)), some (.loc 2), some (.loc t), x, none]) ∧ S[t]? = some (.lst xs) ∧ xs.length = 12 ∧ ∀ x ∈ xs, Okv x S) (fun _ _ _ _ _ => rfl) (fun env S hI => ⟨rfl, ?_⟩) (fun i x env S hx hI => ?_) 4 0 _ _ rfl ⟨3, none, [], by rw [l0], by rw [← l0]; exact app_at0, by decide, by decide, d0.app, rfl, fun _ h => by cases h⟩) fun q S ⟨t, x, xs, e1, e2, e3, e4⟩ => ?_
  · obtain ⟨t, x, xs, e1, e2, _, _, _, e3, e4⟩ := hI
    exact ⟨t, x, xs, by rw [e1], e2, e3, e4⟩
  · obtain ⟨t, y, xs, rfl, h1, h2, h3, h4, h5, h6⟩ := hI
    have hi : i < 4 := by have := (List.getElem?_eq_some_iff.mp hx).1; rwa [hu] at this
    refine ⟨_, rfl, ?_⟩
    simp only [List.length_cons, List.length_nil, List.map_cons, List.map_nil, Nat.zero_add, Nat.reduceAdd, Nat.reduceSub, Nat.reduceLeDiff, List.replicate, List.cons_append, List.nil_append, if_true, ite_true, and_self, true_and, sSeq, sAsg, sRet, sIf, sNx, sExp, mC, mOp, mUn, mVar, mCall, mCons, mNil, mLst, mTup, mNew, mSl, mNoPart, mPart, mJoin, mLc, mRng1, mRng2, tgM, tgMs, wp_bind, wp_ok, Option.bind, Src.size, wip, asL, lim_v, List.set_cons_succ, List.set_cons_zero, List.getElem?_cons_zero, List.getElem?_cons_succ, gPlus, gAdd, mCat]
    refine Wp.mono (text_ok (n := 56) h4 (by omega)) fun v1 S1 ⟨d1, k1, z, f1, f2⟩ => ?_
    refine Wp.mono (word_ok (n := 56) d1 (by omega)) fun v2 S2 ⟨d2, k2, z2, g1, g2⟩ => ?_
    refine Wp.mono (odd_ok (n := 57) d2 (by omega)) fun v3 S3 ⟨d3, k3, o3⟩ => ?_
    have K := k1.trans (k2.trans k3)
    have ht : S3[t]? = some (.lst xs) := by rw [K.get t (get_lt h1) h2 h3]; exact h1
    have hz : xs.length + 3 ≤ 100000 := by omega
    simp only [List.length_cons, List.length_nil, List.map_cons, List.map_nil, Nat.zero_add, Nat.reduceAdd, Nat.reduceSub, Nat.reduceLeDiff, List.replicate, List.cons_append, List.nil_append, if_true, ite_true, and_self, true_and, sSeq, sAsg, sRet, sIf, sNx, sExp, mC, mOp, mUn, mVar, mCall, mCons, mNil, mLst, mTup, mNew, mSl, mNoPart, mPart, mJoin, mLc, mRng1, mRng2, tgM, tgMs, wp_bind, wp_ok, Option.bind, Src.size, wip, asL, lim_v, List.set_cons_succ, List.set_cons_zero, List.getElem?_cons_zero, List.getElem?_cons_succ, gPlus, gAdd, asE, ht, hz]
    refine ⟨S3.length, some x, xs ++ [v1, v2, v3], rfl, app_at0, by have := d3.ltD; omega, by have := d3.ltC; omega, (d3.app).le (by omega), by rw [List.length_append, h5]; simp; omega, fun w hw => ?_⟩
    have hl : S3.length ≤ (S3 ++ [Ob.lst (xs ++ [v1, v2, v3])]).length := by rw [List.length_append]; omega
    rcases List.mem_append.mp hw with hw | hw
    · exact (h6 w hw).le (Nat.le_trans K.le hl)
    · simp only [List.mem_cons, List.not_mem_nil, or_false] at hw
      rcases hw with rfl | rfl | rfl
      · subst f1; exact f2
      · subst g1; exact g2
      · exact o3.le hl
  · subst e1
    simp only [List.length_cons, List.length_nil, List.map_cons, List.map_nil, Nat.zero_add, Nat.reduceAdd, Nat.reduceSub, Nat.reduceLeDiff, List.replicate, List.cons_append, List.nil_append, if_true, ite_true, and_self, true_and, sSeq, sAsg, sRet, sIf, sNx, sExp, mC, mOp, mUn, mVar, mCall, mCons, mNil, mLst, mTup, mNew, mSl, mNoPart, mPart, mJoin, mLc, mRng1, mRng2, tgM, tgMs, wp_bind, wp_ok, Option.bind, Src.size, wip, asL, lim_v, List.set_cons_succ, List.set_cons_zero, List.getElem?_cons_zero, List.getElem?_cons_succ, gPlus, gAdd]
    have hc : mLc (mSrc (mOp gPlus (mVar 2) (mUn gRev (mVar 2)))) (.name 4) (mNot (mTru (mCall (Fn 59 10) (mCons (mVar 4) mNil)))) (mVar 4) [4] [some (.kl (ns.map Val.int)), some (.loc 2), some (.loc t), x, none] S
        = .ok [] (S ++ [.lst xs.reverse] ++ [.lst (xs ++ xs.reverse)]) := by
      have z1 : xs.length + xs.reverse.length ≤ lim := by rw [List.length_reverse, lim_v]; omega
      have z2 : (S ++ [Ob.lst xs.reverse])[t]? = some (.lst xs) := app_get e2
      have z3 : (S ++ [Ob.lst xs.reverse])[S.length]? = some (.lst xs.reverse) := app_at0
      have z4 : (S ++ [Ob.lst xs.reverse] ++ [Ob.lst (xs ++ xs.reverse)])[(S ++ [Ob.lst xs.reverse]).length]? = some (.lst (xs ++ xs.reverse)) := app_at0
      unfold mLc mSrc mOp mUn
      simp only [mVar, List.getElem?_cons_zero, List.getElem?_cons_succ, Out.bind, gRev, e2, gPlus, z2, z3, z1, if_true, srcOf, z4]
      have := compI_pure (src := .live (S ++ [Ob.lst xs.reverse]).length (xs ++ xs.reverse).length) (tg := .name 4) (t := mNot (mTru (mCall (Fn 59 10) (mCons (mVar 4) mNil)))) (e := mVar 4) (env0 := [some (.kl (ns.map Val.int)), some (.loc 2), some (.loc t), x, none]) (xs := xs ++ xs.reverse) (S := S ++ [Ob.lst xs.reverse] ++ [Ob.lst (xs ++ xs.reverse)]) (fun _ => false) (fun v => v) (fun _ _ => item_live z4) (fin_live z4) (fun w hw => ?_) (xs ++ xs.reverse).length 0 [] (by omega) (by simp only [List.length_nil]; rw [List.length_append]; omega)
      · rw [List.filter_eq_nil_iff.mpr (fun _ _ => by decide)] at this
        exact this
      · refine ⟨_, rfl, ?_, fun h => by cases h⟩
        have ho : Okv w (S ++ [Ob.lst xs.reverse] ++ [Ob.lst (xs ++ xs.reverse)]) := by
          refine Okv.le (S := S) ?_ (by rw [List.append_assoc, List.length_append]; omega)
          rcases List.mem_append.mp hw with hw | hw
          · exact e4 w hw
          · exact e4 w (List.mem_reverse.mp hw)
        have : Fn 59 10 [w] (S ++ [Ob.lst xs.reverse] ++ [Ob.lst (xs ++ xs.reverse)]) = _ := right_ok (n := 57) ho
        generalize S ++ [Ob.lst xs.reverse] ++ [Ob.lst (xs ++ xs.reverse)] = SS at this ⊢
        simp [mNot, mTru, mCall, mCons, mVar, mNil, Out.bind, this, truth]
    have he := eq_nil (neg := true) hc (show datL _ _ = some (.list []) from rfl)
    simp only [List.isEmpty_nil, if_true, Bool.not_true] at he
    rw [he]
    simp only [List.length_cons, List.length_nil, List.map_cons, List.map_nil, Nat.zero_add, Nat.reduceAdd, Nat.reduceSub, Nat.reduceLeDiff, List.replicate, List.cons_append, List.nil_append, if_true, ite_true, and_self, true_and, sSeq, sAsg, sRet, sIf, sNx, sExp, mC, mOp, mUn, mVar, mCall, mCons, mNil, mLst, mTup, mNew, mSl, mNoPart, mPart, mJoin, mLc, mRng1, mRng2, tgM, tgMs, wp_bind, wp_ok, Option.bind, Src.size, wip, asL, lim_v, List.set_cons_succ, List.set_cons_zero, List.getElem?_cons_zero, List.getElem?_cons_succ, gPlus, gAdd]
    rfl
end
end Mx.K01

set_option linter.all false
set_option maxRecDepth 100000
set_option maxHeartbeats 0
namespace Mx.K01
open PySem PySem.Spec PyProof.Rows L2 Mx
def dd_is_text : He.DefD := ⟨("is_text", none), "is_text", "is_text", defArgs s_is_text, defBody s_is_text, defScope s_is_text, [], []⟩
def dd_is_name : He.DefD := ⟨("is_name", none), "is_name", "is_name", defArgs s_is_name, defBody s_is_name, defScope s_is_name, [], []⟩
def dd__law_deck : He.DefD := ⟨("_law_deck", none), "_law_deck", "_law_deck", defArgs s__law_deck, defBody s__law_deck, defScope s__law_deck, [], []⟩
def dd__law_draw : He.DefD := ⟨("_law_draw", none), "_law_draw", "_law_draw", defArgs s__law_draw, defBody s__law_draw, defScope s__law_draw, [], []⟩
def dd__law_letters : He.DefD := ⟨("_law_letters", none), "_law_letters", "_law_letters", defArgs s__law_letters, defBody s__law_letters, defScope s__law_letters, [], []⟩
def dd__law_odd : He.DefD := ⟨("_law_odd", none), "_law_odd", "_law_odd", defArgs s__law_odd, defBody s__law_odd, defScope s__law_odd, [], []⟩
def dd__law_sign : He.DefD := ⟨("_law_sign", none), "_law_sign", "_law_sign", defArgs s__law_sign, defBody s__law_sign, defScope s__law_sign, [], []⟩
def dd__law_text : He.DefD := ⟨("_law_text", none), "_law_text", "_law_text", defArgs s__law_text, defBody s__law_text, defScope s__law_text, [], []⟩
def dd__law_word : He.DefD := ⟨("_law_word", none), "_law_word", "_law_word", defArgs s__law_word, defBody s__law_word, defScope s__law_word, [], []⟩
def dd__law_are : He.DefD := ⟨("_law_are", none), "_law_are", "_law_are", defArgs s__law_are, defBody s__law_are, defScope s__law_are, [], []⟩
def dd__law_right : He.DefD := ⟨("_law_right", none), "_law_right", "_law_right", defArgs s__law_right, defBody s__law_right, defScope s__law_right, [], []⟩
def dd_law : He.DefD := ⟨("law", none), "law", "law", defArgs s_law, defBody s_law, defScope s_law, [], []⟩
def fn : List He.DefD := [dd_is_text, dd_is_name, dd__law_deck, dd__law_draw, dd__law_letters, dd__law_odd, dd__law_sign, dd__law_text, dd__law_word, dd__law_are, dd__law_right, dd_law]
def fa : List He.Fa := [.glo "is_text", .glo "is_name", .glo "_law_deck", .glo "_law_draw", .glo "_law_letters", .glo "_law_odd", .glo "_law_sign", .glo "_law_text", .glo "_law_word", .glo "_law_are", .glo "_law_right", .glo "law", .free "abs", .free "all", .free "bool", .free "isinstance", .free "len", .free "range", .free "str", .str "LETTERS" (Str.ofString "abcdefghijklmnopqrstuvwxyz"), .int "LONG" 200, .int "LONGEST_NAME" 8, .str "SIGNS" (Str.ofString " abcdefghijklmnopqrstuvwxyz")]
abbrev R : PySem.W.OpenRow := PySem.W.OpenLaw.row PySem.Challenge.rw_markpieces_k01_signs_and_names
abbrev hk : PySem.W.Hook := He.hookD 4 fa fn
def ob (s : PySem.W.SharedT) : He.AlD := He.obsDG 4 fa fn (HandSHeadRun.getT s)
theorem ob_eq (s : PySem.W.SharedT) : ob s = hk.obs s.abs := He.obsDG_eq (HandSHeadRun.getT_eq s)
def loose0 : List Str := ["LETTERS", "SIGNS", "LONG", "LONGEST_NAME", "is_text", "is_name", "_law_deck", "_law_draw", "_law_letters", "_law_odd", "_law_bent", "_law_sign", "_law_text", "_law_word", "_law_are", "_law_right"]
abbrev loose : List Str := loose0
theorem run (w : World) : HandSHeadRun.RunEq R (PySem.W.view R.prog [18]) hk ob 2000 loose w := by
  intro os
  kernel_rfl
theorem facts {P : Program} {w : World} {K : PySem.W.Frag} {h : Heap} {mg : Str → Option Value} {f : Addr} (X : K.In h) (G : h.Ns mainGlobals mg) (hfa : mg ("law" : Str) = some (.ref f)) (c : He.SaysD fa fn K) :
    ∃ fd : FuncData, (∀ (s : Shared) (v : Value), BindsTo s fd ⟨[v], []⟩ [("_law_script", v)]) ∧ ∀ base : Heap, K.In base → base.Ns mainGlobals mg → FnOk P w K mg base CX0 60 f fd ["_law_script"] (spI K (Fn 60 11)) := by
  obtain ⟨fd0, F0⟩ := c.def_ 0 (d := dd_is_text) rfl
  obtain ⟨fd1, F1⟩ := c.def_ 1 (d := dd_is_name) rfl
  obtain ⟨fd2, F2⟩ := c.def_ 2 (d := dd__law_deck) rfl
  obtain ⟨fd3, F3⟩ := c.def_ 3 (d := dd__law_draw) rfl
  obtain ⟨fd4, F4⟩ := c.def_ 4 (d := dd__law_letters) rfl
  obtain ⟨fd5, F5⟩ := c.def_ 5 (d := dd__law_odd) rfl
  obtain ⟨fd6, F6⟩ := c.def_ 6 (d := dd__law_sign) rfl
  obtain ⟨fd7, F7⟩ := c.def_ 7 (d := dd__law_text) rfl
  obtain ⟨fd8, F8⟩ := c.def_ 8 (d := dd__law_word) rfl
  obtain ⟨fd9, F9⟩ := c.def_ 9 (d := dd__law_are) rfl
  obtain ⟨fd10, F10⟩ := c.def_ 10 (d := dd__law_right) rfl
  obtain ⟨fd11, F11⟩ := c.def_ 11 (d := dd_law) rfl
  have g0 : mg ("is_text" : Str) = some (.ref (He.ga K "is_text")) := He.glo_ok X G (c.fact 0 (f := .glo "is_text") rfl)
  have g1 : mg ("is_name" : Str) = some (.ref (He.ga K "is_name")) := He.glo_ok X G (c.fact 1 (f := .glo "is_name") rfl)
  have g2 : mg ("_law_deck" : Str) = some (.ref (He.ga K "_law_deck")) := He.glo_ok X G (c.fact 2 (f := .glo "_law_deck") rfl)
  have g3 : mg ("_law_draw" : Str) = some (.ref (He.ga K "_law_draw")) := He.glo_ok X G (c.fact 3 (f := .glo "_law_draw") rfl)
  have g4 : mg ("_law_letters" : Str) = some (.ref (He.ga K "_law_letters")) := He.glo_ok X G (c.fact 4 (f := .glo "_law_letters") rfl)
  have g5 : mg ("_law_odd" : Str) = some (.ref (He.ga K "_law_odd")) := He.glo_ok X G (c.fact 5 (f := .glo "_law_odd") rfl)
  have g6 : mg ("_law_sign" : Str) = some (.ref (He.ga K "_law_sign")) := He.glo_ok X G (c.fact 6 (f := .glo "_law_sign") rfl)
  have g7 : mg ("_law_text" : Str) = some (.ref (He.ga K "_law_text")) := He.glo_ok X G (c.fact 7 (f := .glo "_law_text") rfl)
  have g8 : mg ("_law_word" : Str) = some (.ref (He.ga K "_law_word")) := He.glo_ok X G (c.fact 8 (f := .glo "_law_word") rfl)
  have g9 : mg ("_law_are" : Str) = some (.ref (He.ga K "_law_are")) := He.glo_ok X G (c.fact 9 (f := .glo "_law_are") rfl)
  have g10 : mg ("_law_right" : Str) = some (.ref (He.ga K "_law_right")) := He.glo_ok X G (c.fact 10 (f := .glo "_law_right") rfl)
  have g11 : mg ("law" : Str) = some (.ref (He.ga K "law")) := He.glo_ok X G (c.fact 11 (f := .glo "law") rfl)
  have B : Bl mg := ⟨He.free_ok X G (c.fact 12 (f := .free "abs") rfl), He.free_ok X G (c.fact 13 (f := .free "all") rfl), He.free_ok X G (c.fact 14 (f := .free "bool") rfl), He.free_ok X G (c.fact 15 (f := .free "isinstance") rfl), He.free_ok X G (c.fact 16 (f := .free "len") rfl), He.free_ok X G (c.fact 17 (f := .free "range") rfl), He.free_ok X G (c.fact 18 (f := .free "str") rfl)⟩
  have Gc : Gs mg := ⟨He.str_ok X G (c.fact 19 (f := .str "LETTERS" (Str.ofString "abcdefghijklmnopqrstuvwxyz")) rfl), He.int_ok X G (c.fact 20 (f := .int "LONG" 200) rfl), He.int_ok X G (c.fact 21 (f := .int "LONGEST_NAME" 8) rfl), He.str_ok X G (c.fact 22 (f := .str "SIGNS" (Str.ofString " abcdefghijklmnopqrstuvwxyz")) rfl)⟩
  have e := hfa.symm.trans g11
  cases e
  have b := FunD.bindsA (ps := ["_law_script"]) F11 fun _ _ _ _ _ _ us hl => match us, hl with | [_], _ => rfl
  refine ⟨fd11, fun s v => b s [v] rfl, fun base _ _ => ?_⟩
  exact o_law B Gc (all B Gc g0 F0 g1 F1 g2 F2 g3 F3 g4 F4 g5 F5 g6 F6 g7 F7 g8 F8 g9 F9 g10 F10 g11 F11 59) F11
end Mx.K01
open PySem PySem.W PySem.Calls PyProof.Rows
set_option maxRecDepth 100000 in
set_option maxHeartbeats 0 in
theorem PySem.Challenge.cw_markpieces_k01_signs_and_names_holds : PySem.Challenge.rw_markpieces_k01_signs_and_names.Holds := by
  w_on; o_law
  refine HandSHeadRun.head_any (r := OpenLaw.row PySem.Challenge.rw_markpieces_k01_signs_and_names) (q := view (OpenLaw.row PySem.Challenge.rw_markpieces_k01_signs_and_names).prog [18]) (H := Mx.K01.hk) (ob := Mx.K01.ob) (M := 2000) (loose := Mx.K01.loose) (d := HandSHeadRun.topDef (OpenLaw.row PySem.Challenge.rw_markpieces_k01_signs_and_names).prog 18) (kwd := []) Mx.K01.ob_eq
    (by kernel_rfl) (fun s => by kernel_rfl) Mx.K01.run (by kernel_rfl) (by kernel_rfl) (by kernel_rfl) (by rfl) (by first | assumption | decide +kernel) (by decide +kernel) ⟨rfl, rfl, rfl, rfl, rfl, by decide +kernel⟩ ?hw ?hc
  case hw => w_witness2
  case hc =>
    refine L2.walk_ofE (l := PySem.Challenge.rw_markpieces_k01_signs_and_names) (n := 63) (k := 60) (x := "_law_script") (CX := L2.CX0) rfl (by decide) (by kernel_rfl) ⟨rfl, by decide, by decide⟩ ?F (fun _ _ _ _ z => z)
    intro w mg fa h Y G hmg0
    obtain ⟨K, KX, c⟩ := Y
    have hmg : mg ("law" : PySem.Str) = some (.ref fa) := by
      have e : (HandSHeadRun.topDef (OpenLaw.row PySem.Challenge.rw_markpieces_k01_signs_and_names).prog 18).name = ("law" : PySem.Str) := by kernel_rfl
      rw [← e]
      exact hmg0
    obtain ⟨fd, hb, hF⟩ := Mx.K01.facts (P := (PySem.Challenge.rw_markpieces_k01_signs_and_names).prog) (w := w) KX G hmg c
    exact ⟨K, fd, Mx.spI K (Mx.K01.Fn 60 11), KX, hb, fun H a ns hl hO hS => Mx.law_end (Mx.K01.law_true ns hl) hO hS, hF⟩
