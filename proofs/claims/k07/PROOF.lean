import PyProof.Rows.All
import Wide.All
import OpenK.AllK
import Wide.FinOn
import HandS.ForMost
import HandS.IsInst
import HandS.Style
import HandS.Wide
import HandS.TupAny
import KE.DataEq
import HandS.HeadHook1
import HandS.Flow
import HandS.Defaults
import KE.KUnpackStar
import HandS.TupMul
import HandS.SetFor
import HandS.Zip
import HandS.More
import HandS.SetBool
import HandS.DictComp
import HandS.SetKeys
import HandS.SortInts
import KE.SortData
import HandS.Iter
import KE.GoesEnum
import KE.GoesMore
import KE.DataCmp
import KE.DataMinMax
import HandS.SortKw
import HandS.HeadHook4
import HandS.Text
import HandS.NoneIn
import HandS.Exc
import HandS.ExcOwn
import HandS.ExcInit
import HandS.ExcField
import HandS.WordsExc
import KE.KExcIs
import KE.KeyNested
import PyProof.DictRoadsH
import HandS.Small
import HandS.CallLocal
import HandS.List
import HandS.Head0
import HandS.HeadHook2
import HandS.HeadEnd
import PyProof.ReprRoads
import KE.KDictDisplayH
import PyProof.ReprBulk
import PySem.Challenge.RW_markpieces_k07_patterns_written
import HandS.Head1
import HandS.Head2
import Lean
set_option Elab.async false
set_option linter.all false
set_option maxRecDepth 100000
set_option maxHeartbeats 4000000
namespace Mx
open PySem PySem.Spec PyProof.Rows L2

/-- a value: tuples by what they hold; a mutable object by its place in the store -/
inductive Val where
  | non | bl (b : Bool) | int (i : Int) | str (x : List Nat) | tup (xs : List Val) | kl (xs : List Val) | loc (n : Nat) | ext (a : Addr)
inductive Ob where
  | lst (xs : List Val)
  | dic (kvs : List (Key × Val))
  | ins (C : Str) (fs : List (Str × Val))
/-- a list that never changes: the script, a list of the text's own -/
def SqF (K : PySem.W.Frag) (H : Hp) (a : Addr) (xs : List V) : Prop :=
  (∃ o, H a = some (.frz o (.lst xs))) ∨ ∃ (o : Obj) (its : Array Value) (n : Nat), K.lookup a = some o ∧ o.cls = .type "list" ∧ o.dict = none ∧ o.data = .seq its n ∧ its.size ≤ sizeLine ∧ Vals xs its.toList
theorem SqF.sq {K : PySem.W.Frag} {H : Hp} {a : Addr} {xs : List V} (h : SqF K H a xs) : SqL K H a xs := h.elim (fun h => .inl (.inr h)) .inr
abbrev Sto := List Ob
abbrev Ev := List (Option Val)
/-- an exception that is raised: its class, its fields (none: it bears none) -/
structure Exn where
  cls : Str
  fs : Option (List (Str × Val))
inductive Out (α : Type) where
  | ok (a : α) (S : Sto) | err (x : Exn) (S : Sto) | bad
abbrev M (α : Type) := Sto → Out α
def Out.bind {α β : Type} (o : Out α) (f : α → M β) : Out β := match o with
  | .ok a S => f a S
  | .err x S => .err x S
  | .bad => .bad

mutual
def VR (K : PySem.W.Frag) (io : List Addr) (H : Hp) : Val → V → Prop
  | .non, v => v = .non
  | .bl b, v => v = .bl b
  | .int i, v => v = .int i
  | .str x, v => v = .str ⟨x.toArray⟩
  | .tup xs, v => ∃ a vs, v = .ref a ∧ SqT K H a vs ∧ VRs K io H xs vs
  | .kl xs, v => ∃ a vs, v = .ref a ∧ SqF K H a vs ∧ VRs K io H xs vs
  | .loc n, v => ∃ a, io[n]? = some a ∧ v = .ref a
  | .ext a, v => v = .ref a
def VRs (K : PySem.W.Frag) (io : List Addr) (H : Hp) : List Val → List V → Prop
  | [], vs => vs = []
  | x :: xs, vs => ∃ v ws, vs = v :: ws ∧ VR K io H x v ∧ VRs K io H xs ws
end
def OR (K : PySem.W.Frag) (io : List Addr) (H : Hp) : Ob → Addr → Prop
  | .lst xs, a => ∃ vs, H a = some (.lst vs) ∧ VRs K io H xs vs
  | .dic kvs, a => ∃ vs, H a = some (.dK ((kvs.map (·.1)).zip vs)) ∧ VRs K io H (kvs.map (·.2)) vs
  | .ins C fs, a => ∃ dx vs, H a = some (.ins (He.ga K C) dx ((fs.map (·.1)).zip vs)) ∧ H dx = some (.own a) ∧ dx ∉ io ∧ VRs K io H (fs.map (·.2)) vs

structure SR (K : PySem.W.Frag) (io : List Addr) (H : Hp) (S : Sto) : Prop where
  len : io.length = S.length
  inj : ∀ (n m : Nat) (a : Addr), io[n]? = some a → io[m]? = some a → n = m
  obj : ∀ (n : Nat) (a : Addr) (o : Ob), io[n]? = some a → S[n]? = some o → OR K io H o a
/-- what is known grows -/
structure Le (K : PySem.W.Frag) (io : List Addr) (H : Hp) (io' : List Addr) (H' : Hp) : Prop where
  ia : ∀ (n : Nat) (a : Addr), io[n]? = some a → io'[n]? = some a
  tu : ∀ (a : Addr) (xs : List V), SqT K H a xs → SqT K H' a xs
  fz : ∀ (a : Addr) (xs : List V), SqF K H a xs → SqF K H' a xs
  fr : ∀ (a : Addr) (o : HO), H a = some o → a ∉ io → H' a = some o ∧ a ∉ io'

section
variable {K : PySem.W.Frag} {io io1 io2 io' : List Addr} {H H1 H2 H' : Hp} {S : Sto}
theorem Le.refl : Le K io H io H := ⟨fun _ _ h => h, fun _ _ h => h, fun _ _ h => h, fun _ _ h k => ⟨h, k⟩⟩
theorem Le.trans (a : Le K io H io1 H1) (b : Le K io1 H1 io2 H2) : Le K io H io2 H2 := ⟨fun n x h => b.ia n x (a.ia n x h), fun n x h => b.tu n x (a.tu n x h), fun n x h => b.fz n x (a.fz n x h), fun x o h k => b.fr x o (a.fr x o h k).1 (a.fr x o h k).2⟩
mutual
theorem VR.mono (l : Le K io H io' H') : ∀ (x : Val) (v : V), VR K io H x v → VR K io' H' x v
  | .non, _, h => h
  | .bl _, _, h => h
  | .int _, _, h => h
  | .str _, _, h => h
  | .ext _, _, h => h
  | .loc n, _, ⟨a, h, e⟩ => ⟨a, l.ia n a h, e⟩
  | .tup xs, _, ⟨a, vs, e, h, k⟩ => ⟨a, vs, e, l.tu a vs h, VRs.mono l xs vs k⟩
  | .kl xs, _, ⟨a, vs, e, h, k⟩ => ⟨a, vs, e, l.fz a vs h, VRs.mono l xs vs k⟩
theorem VRs.mono (l : Le K io H io' H') : ∀ (xs : List Val) (vs : List V), VRs K io H xs vs → VRs K io' H' xs vs
  | [], _, h => h
  | x :: xs, _, ⟨v, ws, e, h, k⟩ => ⟨v, ws, e, VR.mono l x v h, VRs.mono l xs ws k⟩
end
mutual
theorem VR.grow (l : ∀ (n : Nat) (a : Addr), io[n]? = some a → io'[n]? = some a) : ∀ (x : Val) (v : V), VR K io H x v → VR K io' H x v
  | .non, _, h => h
  | .bl _, _, h => h
  | .int _, _, h => h
  | .str _, _, h => h
  | .ext _, _, h => h
  | .loc n, _, ⟨a, h, e⟩ => ⟨a, l n a h, e⟩
  | .tup xs, _, ⟨a, vs, e, h, k⟩ => ⟨a, vs, e, h, VRs.grow l xs vs k⟩
  | .kl xs, _, ⟨a, vs, e, h, k⟩ => ⟨a, vs, e, h, VRs.grow l xs vs k⟩
theorem VRs.grow (l : ∀ (n : Nat) (a : Addr), io[n]? = some a → io'[n]? = some a) : ∀ (xs : List Val) (vs : List V), VRs K io H xs vs → VRs K io' H xs vs
  | [], _, h => h
  | x :: xs, _, ⟨v, ws, e, h, k⟩ => ⟨v, ws, e, VR.grow l x v h, VRs.grow l xs ws k⟩
end
theorem VRs.length : ∀ {xs : List Val} {vs : List V}, VRs K io H xs vs → vs.length = xs.length
  | [], _, h => by cases h; rfl
  | x :: xs, _, ⟨v, ws, e, _, k⟩ => by rw [e, List.length_cons, List.length_cons, VRs.length k]
theorem VRs.app : ∀ {xs ys : List Val} {vs ws : List V}, VRs K io H xs vs → VRs K io H ys ws → VRs K io H (xs ++ ys) (vs ++ ws)
  | [], _, _, _, h, k => by cases h; exact k
  | x :: xs, _, _, _, ⟨v, us, e, h, r⟩, k => by subst e; exact ⟨v, us ++ _, rfl, h, VRs.app r k⟩
theorem VRs.get : ∀ {xs : List Val} {vs : List V} {i : Nat} {x : Val}, VRs K io H xs vs → xs[i]? = some x → ∃ v, vs[i]? = some v ∧ VR K io H x v
  | [], _, i, _, _, e => by simp at e
  | y :: ys, _, 0, x, ⟨v, ws, e1, h, _⟩, e => by subst e1; simp at e; subst e; exact ⟨v, rfl, h⟩
  | y :: ys, _, i + 1, x, ⟨v, ws, e1, _, k⟩, e => by
    subst e1
    obtain ⟨u, e2, r⟩ := VRs.get (i := i) k (by simpa using e)
    exact ⟨u, by simpa using e2, r⟩
theorem VRs.getv {xs : List Val} {vs : List V} {i : Nat} {v : V} (h : VRs K io H xs vs) (e : vs[i]? = some v) : ∃ x, xs[i]? = some x ∧ VR K io H x v := by
  have hl := h.length
  have hi : i < xs.length := by
    have := (List.getElem?_eq_some_iff.mp e).1
    omega
  obtain ⟨u, e2, r⟩ := h.get (List.getElem?_eq_getElem hi)
  rw [e] at e2
  cases e2
  exact ⟨_, List.getElem?_eq_getElem hi, r⟩
theorem VRs.take : ∀ {xs : List Val} {vs : List V} (n : Nat), VRs K io H xs vs → VRs K io H (xs.take n) (vs.take n)
  | _, _, 0, _ => by rw [List.take_zero, List.take_zero]; rfl
  | [], _, n + 1, h => by cases h; rfl
  | x :: xs, _, n + 1, ⟨v, ws, e, h, k⟩ => by subst e; exact ⟨v, ws.take n, rfl, h, VRs.take n k⟩
theorem VRs.drop : ∀ {xs : List Val} {vs : List V} (n : Nat), VRs K io H xs vs → VRs K io H (xs.drop n) (vs.drop n)
  | _, _, 0, h => h
  | [], _, n + 1, h => by cases h; rfl
  | x :: xs, _, n + 1, ⟨v, ws, e, h, k⟩ => by subst e; exact VRs.drop n k
theorem VRs.set : ∀ {xs : List Val} {vs : List V} (i : Nat) {x : Val} {v : V}, VR K io H x v → VRs K io H xs vs → VRs K io H (xs.set i x) (vs.set i v)
  | [], _, _, _, _, _, h => by cases h; rfl
  | _ :: _, _, 0, _, _, r, ⟨u, ws, e, _, k⟩ => by subst e; exact ⟨_, ws, rfl, r, k⟩
  | _ :: _, _, i + 1, _, _, r, ⟨u, ws, e, h, k⟩ => by subst e; exact ⟨u, ws.set i _, rfl, h, VRs.set i r k⟩
theorem VRs.rev : ∀ {xs : List Val} {vs : List V}, VRs K io H xs vs → VRs K io H xs.reverse vs.reverse
  | [], _, h => by cases h; rfl
  | x :: xs, _, ⟨v, ws, e, h, k⟩ => by
    subst e
    rw [List.reverse_cons, List.reverse_cons]
    exact (VRs.rev k).app ⟨v, [], rfl, h, rfl⟩
theorem VRs.one {x : Val} {v : V} (h : VR K io H x v) : VRs K io H [x] [v] := ⟨v, [], rfl, h, rfl⟩
theorem VRs.mapI : ∀ (ns : List Int), VRs K io H (ns.map Val.int) (ns.map V.int)
  | [] => rfl
  | n :: ns => ⟨_, _, rfl, rfl, VRs.mapI ns⟩
/-- texts and numbers that stand in a list of values -/
theorem VRs.ints : ∀ {ns : List Int} {vs : List V}, VRs K io H (ns.map Val.int) vs → vs = ns.map V.int
  | [], _, h => h
  | n :: ns, _, ⟨v, ws, e, h, k⟩ => by
    have h' : v = .int n := h
    rw [e, h', VRs.ints k]; rfl
theorem VRs.bls : ∀ {ns : List Bool} {vs : List V}, VRs K io H (ns.map Val.bl) vs → vs = ns.map V.bl
  | [], _, h => h
  | n :: ns, _, ⟨v, ws, e, h, k⟩ => by
    have h' : v = .bl n := h
    rw [e, h', VRs.bls k]; rfl
theorem VRs.strs : ∀ {ns : List (List Nat)} {vs : List V}, VRs K io H (ns.map Val.str) vs → vs = ns.map fun x => V.str ⟨x.toArray⟩
  | [], _, h => h
  | n :: ns, _, ⟨v, ws, e, h, k⟩ => by
    have h' : v = .str ⟨n.toArray⟩ := h
    rw [e, h', VRs.strs k]; rfl

theorem OR.keep {a : Addr} {o : Ob} (ha : H' a = H a) (hw : ∀ (b x : Addr), H b = some (.own x) → b ∉ io → H' b = some (.own x) ∧ b ∉ io') (hv : ∀ xs vs, VRs K io H xs vs → VRs K io' H' xs vs) (h : OR K io H o a) : OR K io' H' o a := by
  cases o with
  | lst xs => obtain ⟨vs, e, k⟩ := h; exact ⟨vs, by rw [ha]; exact e, hv _ _ k⟩
  | dic kvs => obtain ⟨vs, e, k⟩ := h; exact ⟨vs, by rw [ha]; exact e, hv _ _ k⟩
  | ins C fs => obtain ⟨dx, vs, e, d, n, k⟩ := h; exact ⟨dx, vs, by rw [ha]; exact e, (hw _ _ d n).1, (hw _ _ d n).2, hv _ _ k⟩
theorem rd_new {p a : Addr} {o u : HO} (hp : H p = none) (h : Rd H a u) : Rd (upd H p o) a u := by
  rcases h with h | ⟨x, h⟩
  · exact .inl (by rw [upd_ne (ne_of_none h hp)]; exact h)
  · exact .inr ⟨x, by rw [upd_ne (ne_of_none h hp)]; exact h⟩
theorem rd_mut {p a : Addr} {xs ys zs : List V} (hp : H p = some (.lst xs)) (h : Rd H a (.tup zs)) : Rd (upd H p (.lst ys)) a (.tup zs) := by
  rcases h with h | ⟨x, h⟩
  · exact .inl (by rw [upd_ne (ne_of h hp (by intro z; cases z))]; exact h)
  · exact .inr ⟨x, by rw [upd_ne (ne_of h hp (by intro z; cases z))]; exact h⟩
theorem fz_new {p a : Addr} {o : HO} {xs : List V} (hp : H p = none) (h : SqF K H a xs) : SqF K (upd H p o) a xs := by
  rcases h with ⟨x, h⟩ | h
  · exact .inl ⟨x, by rw [upd_ne (ne_of_none h hp)]; exact h⟩
  · exact .inr h
theorem fz_mut {p a : Addr} {xs ys zs : List V} (hp : H p = some (.lst xs)) (h : SqF K H a zs) : SqF K (upd H p (.lst ys)) a zs := by
  rcases h with ⟨x, h⟩ | h
  · exact .inl ⟨x, by rw [upd_ne (ne_of h hp (by intro z; cases z))]; exact h⟩
  · exact .inr h
theorem Le.new {p : Addr} {o : HO} (hp : H p = none) : Le K io H io (upd H p o) := ⟨fun _ _ h => h, fun a xs h => by
  rcases h with h | h
  · exact .inl (rd_new hp h)
  · exact .inr h, fun a xs h => fz_new hp h, fun a o h k => ⟨by rw [upd_ne (ne_of_none h hp)]; exact h, k⟩⟩
theorem Le.newL {p : Addr} {o : HO} (hp : H p = none) : Le K io H (io ++ [p]) (upd H p o) := ⟨fun n a h => by
  have hn := (List.getElem?_eq_some_iff.mp h).1
  rw [List.getElem?_append_left hn]
  exact h, (Le.new (K := K) (io := io) hp).tu, (Le.new (K := K) (io := io) hp).fz, fun a o h k => ⟨by rw [upd_ne (ne_of_none h hp)]; exact h, fun z => by
    rcases List.mem_append.mp z with z | z
    · exact k z
    · exact ne_of_none h hp (List.mem_singleton.mp z)⟩⟩
/-- a list that the store does not hold is put into it -/
theorem Le.own {p : Addr} (l : Le K io H io' H') (h0 : H p = none) (hp : p ∉ io') : Le K io H (io' ++ [p]) H' := by
  refine ⟨fun n a h => ?_, l.tu, l.fz, fun a o h k => ⟨(l.fr a o h k).1, fun z => ?_⟩⟩
  · have h := l.ia n a h
    have hn := (List.getElem?_eq_some_iff.mp h).1
    rw [List.getElem?_append_left hn]
    exact h
  · rcases List.mem_append.mp z with z | z
    · exact (l.fr a o h k).2 z
    · rw [List.mem_singleton.mp z, h0] at h
      cases h
theorem SR.own {p : Addr} {xs : List Val} {vs : List V} (r : SR K io H S) (hp : p ∉ io) (hv : H p = some (.lst vs)) (h : VRs K io H xs vs) : SR K (io ++ [p]) H (S ++ [.lst xs]) := by
  have up : ∀ (n : Nat) (a : Addr), io[n]? = some a → (io ++ [p])[n]? = some a := fun n a h => by
    rw [List.getElem?_append_left (List.getElem?_eq_some_iff.mp h).1]; exact h
  have lim : ∀ (n : Nat) (a : Addr), (io ++ [p])[n]? = some a → (io[n]? = some a ∧ n < io.length) ∨ (n = io.length ∧ a = p) := fun n a e => by
    by_cases hn : n < io.length
    · rw [List.getElem?_append_left hn] at e
      exact .inl ⟨e, hn⟩
    · have hl := (List.getElem?_eq_some_iff.mp e).1
      rw [List.length_append, List.length_singleton] at hl
      have e0 : n = io.length := by omega
      subst e0
      rw [List.getElem?_append_right (Nat.le_refl _), Nat.sub_self] at e
      exact .inr ⟨rfl, (Option.some.inj e).symm⟩
  have mo : ∀ (x : List Val) (v : List V), VRs K io H x v → VRs K (io ++ [p]) H x v := fun x v h => VRs.grow up x v h
  refine ⟨by rw [List.length_append, List.length_append, r.len]; rfl, fun n m a h1 h2 => ?_, fun n a o h1 h2 => ?_⟩
  · rcases lim n a h1 with ⟨e1, _⟩ | ⟨rfl, rfl⟩
    · rcases lim m a h2 with ⟨e2, _⟩ | ⟨rfl, rfl⟩
      · exact r.inj n m a e1 e2
      · exact absurd (List.mem_of_getElem? e1) hp
    · rcases lim m a h2 with ⟨e2, _⟩ | ⟨h, _⟩
      · exact absurd (List.mem_of_getElem? e2) hp
      · exact h.symm
  · rcases lim n a h1 with ⟨e1, hn⟩ | ⟨rfl, rfl⟩
    · rw [List.getElem?_append_left (by rw [← r.len]; exact hn)] at h2
      have q := r.obj n a o e1 h2
      refine q.keep rfl (fun b x hb hn => ⟨hb, fun z => ?_⟩) mo
      rcases List.mem_append.mp z with z | z
      · exact hn z
      · rw [List.mem_singleton.mp z, hv] at hb
        cases hb
    · rw [r.len, List.getElem?_append_right (Nat.le_refl _), Nat.sub_self] at h2
      have e := Option.some.inj h2
      subst e
      exact ⟨vs, hv, mo _ _ h⟩
theorem Le.mut {p : Addr} {n : Nat} {xs ys : List V} (hp : H p = some (.lst xs)) (hi : io[n]? = some p) : Le K io H io (upd H p (.lst ys)) := ⟨fun _ _ h => h, fun a xs h => by
  rcases h with h | h
  · exact .inl (rd_mut hp h)
  · exact .inr h, fun a xs h => fz_mut hp h, fun a o h k => ⟨by rw [upd_ne fun z => k (by rw [z]; exact List.mem_of_getElem? hi)]; exact h, k⟩⟩
theorem OR.new {p a : Addr} {u : HO} {o : Ob} (hp : H p = none) (l : Le K io H io' (upd H p u)) (h : OR K io H o a) : OR K io' (upd H p u) o a := by
  have ha : a ≠ p := fun z => by
    cases o with
    | lst xs => obtain ⟨vs, e, k⟩ := h; rw [z, hp] at e; cases e
    | dic kvs => obtain ⟨vs, e, k⟩ := h; rw [z, hp] at e; cases e
    | ins C fs => obtain ⟨dx, vs, e, _⟩ := h; rw [z, hp] at e; cases e
  exact h.keep (upd_ne ha) (fun b x hb hn => l.fr b _ hb hn) fun xs vs k => VRs.mono l xs vs k
theorem OR.some {a : Addr} {o : Ob} (h : OR K io H o a) : H a ≠ none := by
  cases o with
  | lst xs => obtain ⟨vs, e, _⟩ := h; rw [e]; intro z; cases z
  | dic xs => obtain ⟨vs, e, _⟩ := h; rw [e]; intro z; cases z
  | ins C fs => obtain ⟨dx, vs, e, _⟩ := h; rw [e]; intro z; cases z
/-- a new tuple (or another thing that the store does not hold) -/
theorem SR.new {p : Addr} {u : HO} (r : SR K io H S) (hp : H p = none) : SR K io (upd H p u) S :=
  ⟨r.len, r.inj, fun n a o h1 h2 => (r.obj n a o h1 h2).new hp (Le.new hp)⟩
theorem SR.at {n : Nat} {o : Ob} (r : SR K io H S) (h : S[n]? = some o) : ∃ a, io[n]? = some a ∧ OR K io H o a := by
  have hn := (List.getElem?_eq_some_iff.mp h).1
  have hi : n < io.length := by rw [r.len]; exact hn
  exact ⟨io[n], List.getElem?_eq_getElem hi, r.obj n _ o (List.getElem?_eq_getElem hi) h⟩
theorem SR.is {n : Nat} {a : Addr} {o : Ob} (r : SR K io H S) (h : S[n]? = some o) (e : io[n]? = some a) : OR K io H o a := r.obj n a o e h
/-- a new list -/
theorem SR.newL {p : Addr} {xs : List Val} {vs : List V} (r : SR K io H S) (hp : H p = none) (h : VRs K io H xs vs) : SR K (io ++ [p]) (upd H p (.lst vs)) (S ++ [.lst xs]) := by
  have L : Le K io H (io ++ [p]) (upd H p (.lst vs)) := Le.newL hp
  have lim : ∀ (n : Nat) (a : Addr), (io ++ [p])[n]? = some a → (io[n]? = some a ∧ n < io.length) ∨ (n = io.length ∧ a = p) := fun n a e => by
    by_cases hn : n < io.length
    · rw [List.getElem?_append_left hn] at e
      exact .inl ⟨e, hn⟩
    · have hl := (List.getElem?_eq_some_iff.mp e).1
      rw [List.length_append, List.length_singleton] at hl
      have e0 : n = io.length := by omega
      subst e0
      rw [List.getElem?_append_right (Nat.le_refl _), Nat.sub_self] at e
      exact .inr ⟨rfl, (Option.some.inj e).symm⟩
  have nep : ∀ (n : Nat) (a : Addr), io[n]? = some a → a ≠ p := fun n a e z => by
    have hn := (List.getElem?_eq_some_iff.mp e).1
    rw [r.len] at hn
    have := (r.obj n a _ e (List.getElem?_eq_getElem hn)).some
    rw [z] at this
    exact this hp
  refine ⟨by rw [List.length_append, List.length_append, r.len]; rfl, fun n m a h1 h2 => ?_, fun n a o h1 h2 => ?_⟩
  · rcases lim n a h1 with ⟨e1, _⟩ | ⟨rfl, rfl⟩
    · rcases lim m a h2 with ⟨e2, _⟩ | ⟨rfl, rfl⟩
      · exact r.inj n m a e1 e2
      · exact absurd rfl (nep n a e1)
    · rcases lim m a h2 with ⟨e2, _⟩ | ⟨h, _⟩
      · exact absurd rfl (nep m a e2)
      · exact h.symm
  · rcases lim n a h1 with ⟨e1, hn⟩ | ⟨rfl, rfl⟩
    · rw [List.getElem?_append_left (by rw [← r.len]; exact hn)] at h2
      exact (r.obj n a o e1 h2).new hp L
    · rw [r.len, List.getElem?_append_right (Nat.le_refl _), Nat.sub_self] at h2
      have e := Option.some.inj h2
      subst e
      exact ⟨vs, upd_same, VRs.mono L _ _ h⟩
/-- a list is changed -/
theorem SR.upd {n : Nat} {a : Addr} {xs0 xs : List Val} {vs0 vs : List V} (r : SR K io H S) (hn : io[n]? = some a) (h0 : S[n]? = some (.lst xs0)) (ha : H a = some (.lst vs0)) (h : VRs K io H xs vs) :
    SR K io (upd H a (.lst vs)) (S.set n (.lst xs)) := by
  have L : Le K io H io (L2.upd H a (.lst vs)) := Le.mut ha hn
  refine ⟨by rw [List.length_set]; exact r.len, r.inj, fun m b o h1 h2 => ?_⟩
  by_cases e : m = n
  · subst e
    have eb : b = a := Option.some.inj (h1.symm.trans hn)
    subst eb
    have hl := (List.getElem?_eq_some_iff.mp h0).1
    rw [List.getElem?_set_self hl] at h2
    have e := Option.some.inj h2
    subst e
    exact ⟨vs, upd_same, VRs.mono L _ _ h⟩
  · rw [List.getElem?_set_ne (Ne.symm e)] at h2
    have nb : b ≠ a := fun z => e (r.inj m n a (by rw [← z]; exact h1) hn)
    have q := r.obj m b o h1 h2
    exact q.keep (upd_ne nb) (fun b x hb hn => L.fr b _ hb hn) fun xs vs k => VRs.mono L xs vs k
end
end Mx

set_option linter.all false
set_option maxRecDepth 100000
set_option maxHeartbeats 4000000
namespace Mx
open PySem PySem.Spec PyProof.Rows L2

/-- how an exception lies in the heap -/
def XR (K : PySem.W.Frag) (io : List Addr) (H : Hp) (x : Exn) (c : Value) (d : Option Addr) : Prop :=
  c = .ref (He.ga K x.cls) ∧ match x.fs with
    | none => d = none
    | some l => ∃ p vs, d = some p ∧ H p = some (.xd ((l.map (·.1)).zip vs)) ∧ VRs K io H (l.map (·.2)) vs

/-- what is wanted behind an outcome: R relates the outcome's thing to the machine's -/
def FinG {α β : Type} (K : PySem.W.Frag) (R : List Addr → Hp → α → β → Prop) (E : XK) (io : List Addr) (H : Hp) (Q : β → Hp → Prop) : Out α → Prop
  | .ok x S => ∀ io' H' v, Le K io H io' H' → SR K io' H' S → R io' H' x v → Q v H'
  | .err x S => ∀ io' H' c d, Le K io H io' H' → SR K io' H' S → XR K io' H' x c d → E c d H'
  | .bad => False
section
variable {α β γ δ : Type} {K : PySem.W.Frag} {R : List Addr → Hp → α → β → Prop} {R' : List Addr → Hp → γ → δ → Prop} {E : XK} {io io' : List Addr} {H H' : Hp} {Q : β → Hp → Prop}
theorem FinG.mono {o : Out α} (l : Le K io H io' H') (h : FinG K R E io H Q o) : FinG K R E io' H' Q o := by
  cases o with
  | ok x S => exact fun io2 H2 v l2 => h io2 H2 v (l.trans l2)
  | err x S => exact fun io2 H2 c d l2 => h io2 H2 c d (l.trans l2)
  | bad => exact h
theorem fin_ok {x : α} {v : β} {S : Sto} (h : FinG K R E io H Q (.ok x S)) (l : Le K io H io' H') (s : SR K io' H' S) (r : R io' H' x v) : Q v H' := h io' H' v l s r
theorem fin_here {x : α} {v : β} {S : Sto} (h : FinG K R E io H Q (.ok x S)) (s : SR K io H S) (r : R io H x v) : Q v H := h io H v Le.refl s r
/-- the first part's wish, from the whole's -/
theorem fin_bind {o : Out α} {f : α → M γ} {Q2 : δ → Hp → Prop} (h : FinG K R' E io H Q2 (o.bind f))
    (k : ∀ x S io1 H1 v, o = .ok x S → Le K io H io1 H1 → SR K io1 H1 S → R io1 H1 x v → FinG K R' E io1 H1 Q2 (f x S) → Q v H1) : FinG K R E io H Q o := by
  cases o with
  | ok x S => exact fun io1 H1 v l s r => k x S io1 H1 v rfl l s r (FinG.mono l h)
  | err x S => exact h
  | bad => exact h
end

structure ER (K : PySem.W.Frag) (io : List Addr) (H : Hp) (env : Ev) (σ : L2.St) : Prop where
  len : env.length = σ.length
  get : ∀ (i : Nat) (x : Val), env[i]? = some (some x) → ∃ v, σ[i]? = some (some v) ∧ VR K io H x v
section
variable {K : PySem.W.Frag} {io io' : List Addr} {H H' : Hp} {env : Ev} {σ : L2.St}
theorem ER.mono (l : Le K io H io' H') (h : ER K io H env σ) : ER K io' H' env σ := ⟨h.len, fun i x e => let ⟨v, e2, r⟩ := h.get i x e; ⟨v, e2, VR.mono l _ _ r⟩⟩
theorem ER.set {x : Val} {v : V} (i : Nat) (h : ER K io H env σ) (r : VR K io H x v) : ER K io H (env.set i (some x)) (σ.set i (some v)) := by
  refine ⟨by rw [List.length_set, List.length_set]; exact h.len, fun j y e => ?_⟩
  by_cases hj : j = i
  · subst hj
    have hl := (List.getElem?_eq_some_iff.mp e).1
    rw [List.length_set] at hl
    rw [List.getElem?_set_self hl] at e
    have e' := Option.some.inj (Option.some.inj e)
    subst e'
    exact ⟨v, by rw [List.getElem?_set_self (by rw [← h.len]; exact hl)], r⟩
  · rw [List.getElem?_set_ne (Ne.symm hj)] at e
    obtain ⟨w, e2, r2⟩ := h.get j y e
    exact ⟨w, by rw [List.getElem?_set_ne (Ne.symm hj)]; exact e2, r2⟩
def wip (env : Ev) : List Nat → Ev
  | [] => env
  | i :: r => (wip env r).set i none
end

/-- an argument's, a test's, a value's relation; a list that the store does not hold, new since the heap B -/
def RL (K : PySem.W.Frag) (B : Hp) (io : List Addr) (H : Hp) (xs : List Val) (v : V) : Prop := ∃ a vs, v = .ref a ∧ H a = some (.lst vs) ∧ B a = none ∧ a ∉ io ∧ VRs K io H xs vs
def RB : List Addr → Hp → Bool → Bool → Prop := fun _ _ b c => b = c

structure PEm (X : Cx) (E : XK) (e : Expr) (m : Ev → M Val) : Prop where
  ex : ∃ t, PE X e t ∧ ∀ io σ H env S Q, ER X.K io H env σ → SR X.K io H S → FinG X.K (VR X.K) E io H Q (m env S) → t σ H Q
structure PLm (X : Cx) (E : XK) (e : Expr) (m : Ev → M (List Val)) : Prop where
  ex : ∃ t, PE X e t ∧ ∀ io σ H env S Q, ER X.K io H env σ → SR X.K io H S → FinG X.K (RL X.K H) E io H Q (m env S) → t σ H Q
structure PTm (X : Cx) (E : XK) (e : Expr) (m : Ev → M Bool) : Prop where
  ex : ∃ t, PT X e t ∧ ∀ io σ H env S Q, ER X.K io H env σ → SR X.K io H S → FinG X.K RB E io H Q (m env S) → t σ H Q
structure PWm (X : Cx) (E : XK) (e : Expr) (m : Ev → M Bool) : Prop where
  ex : ∃ t, PW X e t ∧ ∀ io σ H env S Q, ER X.K io H env σ → SR X.K io H S → FinG X.K RB E io H Q (m env S) → t σ H Q
structure PAm (X : Cx) (E : XK) (es : List Expr) (m : Ev → M (List Val)) : Prop where
  ex : ∃ t, PA X es t ∧ ∀ io σ H env S Q, ER X.K io H env σ → SR X.K io H S → FinG X.K (VRs X.K) E io H Q (m env S) → t σ H Q

/-! ### the denotations -/
def pur {α : Type} (x : α) : M α := fun S => .ok x S
def bad {α : Type} : M α := fun _ => .bad
def mVar (i : Nat) : Ev → M Val := fun env S => match env[i]? with
  | some (some v) => .ok v S
  | _ => .bad
def mC (v : Val) : Ev → M Val := fun _ S => .ok v S
def mOp (g : Val → Val → M Val) (a b : Ev → M Val) : Ev → M Val := fun env S => (a env S).bind fun x S1 => (b env S1).bind fun y S2 => g x y S2
def mUn (g : Val → M Val) (a : Ev → M Val) : Ev → M Val := fun env S => (a env S).bind fun x S1 => g x S1
def mNil : Ev → M (List Val) := fun _ S => .ok [] S
def mCons (a : Ev → M Val) (r : Ev → M (List Val)) : Ev → M (List Val) := fun env S => (a env S).bind fun x S1 => (r env S1).bind fun xs S2 => .ok (x :: xs) S2
/-- the largest length that is served -/
def lim : Nat := 100000
def mTup (a : Ev → M (List Val)) : Ev → M Val := fun env S => (a env S).bind fun xs S1 => if xs.length ≤ lim then .ok (.tup xs) S1 else .bad
def mLst (a : Ev → M (List Val)) : Ev → M (List Val) := fun env S => (a env S).bind fun xs S1 => if xs.length ≤ lim then .ok xs S1 else .bad
def mNew (a : Ev → M (List Val)) : Ev → M Val := fun env S => (a env S).bind fun xs S1 => .ok (.loc S1.length) (S1 ++ [.lst xs])
def mIf (t : Ev → M Bool) (a b : Ev → M Val) : Ev → M Val := fun env S => (t env S).bind fun c S1 => if c = true then a env S1 else b env S1
def mNot (t : Ev → M Bool) : Ev → M Bool := fun env S => (t env S).bind fun c S1 => .ok (!c) S1
def mAnd (t u : Ev → M Bool) : Ev → M Bool := fun env S => (t env S).bind fun c S1 => if c = true then u env S1 else .ok false S1
def mOr (t u : Ev → M Bool) : Ev → M Bool := fun env S => (t env S).bind fun c S1 => if c = true then .ok true S1 else u env S1
def mBl (t : Ev → M Bool) : Ev → M Val := fun env S => (t env S).bind fun c S1 => .ok (.bl c) S1
def mTst (g : Val → Val → M Bool) (a b : Ev → M Val) : Ev → M Bool := fun env S => (a env S).bind fun x S1 => (b env S1).bind fun y S2 => g x y S2
def mChn (g g' : Val → Val → M Bool) (a b c : Ev → M Val) : Ev → M Bool := fun env S => (a env S).bind fun x S1 => (b env S1).bind fun y S2 => (g x y S2).bind fun k S3 =>
  if k = true then (c env S3).bind fun z S4 => g' y z S4 else .ok false S3
def truth : Val → M Bool
  | .non, S => .ok false S
  | .bl b, S => .ok b S
  | .int i, S => .ok (i != 0) S
  | .str x, S => if x.length ≤ lim then .ok (!x.isEmpty) S else .bad
  | .tup xs, S => .ok (!xs.isEmpty) S
  | .kl xs, S => .ok (!xs.isEmpty) S
  | .loc n, S => match S[n]? with
    | some (.lst xs) => .ok (!xs.isEmpty) S
    | some (.dic kvs) => .ok (!kvs.isEmpty) S
    | _ => .bad
  | .ext _, _ => .bad
def mTru (a : Ev → M Val) : Ev → M Bool := fun env S => (a env S).bind fun x S1 => truth x S1

theorem lim_le {n : Nat} (h : n ≤ lim) : n ≤ sizeLine := Nat.le_trans h (by decide)
theorem lim_lt {n : Nat} (h : n < lim) : n < sizeLine := Nat.lt_of_lt_of_le h (by decide)

section
variable {X : Cx} {E : XK} {a b c e : Expr} {es : List Expr} {ma mb mc : Ev → M Val} {ta tb : Ev → M Bool} {pos : Pos}
theorem pem_var {i : Nat} {x : Str} {pos : Pos} (hN : X.N[i]? = some x := by rfl) (hv : Vis X.env.scope x := by first | exact Or.inl rfl | exact Or.inr (Or.inl rfl) | exact Or.inr (Or.inr rfl)) (hd : (x == ("__debug__" : Str)) = false := by decide)
    (hcd : (x == ("__classdict__" : Str)) = false := by decide) : PEm X E (.Name x pos) (mVar i) := by
  refine ⟨tVar i, pe_var hN hv hd hcd, fun io σ H env S Q er sr h => ?_⟩
  unfold mVar at h
  cases e1 : env[i]? with
  | none => rw [e1] at h; exact h.elim
  | some o =>
    rw [e1] at h
    cases o with
    | none => exact h.elim
    | some x =>
      obtain ⟨v, e2, r⟩ := er.get i x e1
      exact ⟨v, e2, fin_here h sr r⟩
theorem pem_c {v : Val} {w : V} (he : PE X e (tC w)) (r : ∀ io H, VR X.K io H v w) : PEm X E e (mC v) :=
  ⟨tC w, he, fun io σ H env S Q er sr h => fin_here h sr (r io H)⟩
theorem pem_int {i j pos} : PEm X E (.Constant (.int i) j pos) (mC (.int i)) := pem_c pe_int fun _ _ => rfl
theorem pem_bl {b j pos} : PEm X E (.Constant (.bool b) j pos) (mC (.bl b)) := pem_c pe_bl fun _ _ => rfl
theorem pem_non {j pos} : PEm X E (.Constant .none j pos) (mC .non) := pem_c pe_non fun _ _ => rfl
theorem pem_str {x : Str} {z : List Nat} {j pos} (hz : x = ⟨z.toArray⟩ := by decide +kernel) : PEm X E (.Constant (.str x) j pos) (mC (.str z)) := pem_c pe_str fun _ _ => by rw [hz]; rfl
/-- a module's constant -/
theorem pem_glob {x : Str} {v : Val} {w : V} {u : Value} (hm : X.mg x = some u) (r : RelV w u) (q : ∀ io H, VR X.K io H v w) (hg : Gl X x := by rfl) (hd : (x == ("__debug__" : Str)) = false := by decide) : PEm X E (.Name x pos) (mC v) :=
  pem_c (pe_glob hg hm r hd) q

/-! ### two expressions -/
def OpM (X : Cx) (E : XK) (f : Value → Value → Sem Value) (g : Val → Val → M Val) : Prop :=
  ∃ r, OpR X f r ∧ ∀ io H S x y v w Q, SR X.K io H S → VR X.K io H x v → VR X.K io H y w → FinG X.K (VR X.K) E io H Q (g x y S) → r v w H Q
def TsM (X : Cx) (E : XK) (f : Value → Value → Sem Value) (g : Val → Val → M Bool) : Prop :=
  ∃ r, OpR X f r ∧ ∀ io H S x y v w Q, SR X.K io H S → VR X.K io H x v → VR X.K io H y w → FinG X.K RB E io H Q (g x y S) → r v w H (fun z H' => ∃ k, z = .bl k ∧ Q k H')
theorem run2 {ta tb : TE} {g : Val → Val → M γ} {R : List Addr → Hp → γ → δ → Prop} {k : V → V → Hp → Prop} {Q : δ → Hp → Prop} (ha : ∀ io σ H env S Q, ER X.K io H env σ → SR X.K io H S → FinG X.K (VR X.K) E io H Q (ma env S) → ta σ H Q)
    (hb : ∀ io σ H env S Q, ER X.K io H env σ → SR X.K io H S → FinG X.K (VR X.K) E io H Q (mb env S) → tb σ H Q) {io : List Addr} {σ : L2.St} {H : Hp} {env : Ev} {S : Sto} (er : ER X.K io H env σ) (sr : SR X.K io H S)
    (h : FinG X.K R E io H Q ((ma env S).bind fun x S1 => (mb env S1).bind fun y S2 => g x y S2))
    (fin : ∀ io2 H2 S2 x y v w, Le X.K io H io2 H2 → SR X.K io2 H2 S2 → VR X.K io2 H2 x v → VR X.K io2 H2 y w → FinG X.K R E io2 H2 Q (g x y S2) → k v w H2) :
    ta σ H fun v H1 => tb σ H1 fun w H2 => k v w H2 := by
  refine ha io σ H env S _ er sr (fin_bind h fun x S1 io1 H1 v _ l1 s1 r1 h1 => ?_)
  refine hb io1 σ H1 env S1 _ (er.mono l1) s1 (fin_bind h1 fun y S2 io2 H2 w _ l2 s2 r2 h2 => ?_)
  exact fin io2 H2 S2 x y v w (l1.trans l2) s2 (VR.mono l2 _ _ r1) r2 h2
theorem pem_op {op : Operator} {g : Val → Val → M Val} (ho : OpM X E (binaryOp op) g) (ha : PEm X E a ma) (hb : PEm X E b mb) : PEm X E (.BinOp a op b pos) (mOp g ma mb) := by
  obtain ⟨ta, pa, qa⟩ := ha.ex
  obtain ⟨tb, pb, qb⟩ := hb.ex
  obtain ⟨r, pr, qr⟩ := ho
  refine ⟨_, pe_op pr pa pb, fun io σ H env S Q er sr h => ?_⟩
  exact run2 qa qb er sr h fun io2 H2 S2 x y v w _ s2 r1 r2 h2 => qr io2 H2 S2 x y v w Q s2 r1 r2 h2
theorem ptm_cmp {op : CmpOp} {g : Val → Val → M Bool} (ho : TsM X E (compareOp op) g) (ha : PEm X E a ma) (hb : PEm X E b mb) (hm : behindInMarks op b = false := by first | exact nomark _ | rfl) : PTm X E (.Compare a [op] [b] pos) (mTst g ma mb) := by
  obtain ⟨ta, pa, qa⟩ := ha.ex
  obtain ⟨tb, pb, qb⟩ := hb.ex
  obtain ⟨r, pr, qr⟩ := ho
  refine ⟨_, pt_cmpR pr pa pb hm, fun io σ H env S Q er sr h => ?_⟩
  exact run2 qa qb er sr h fun io2 H2 S2 x y v w _ s2 r1 r2 h2 => qr io2 H2 S2 x y v w Q s2 r1 r2 h2
theorem pem_cmp {op : CmpOp} {g : Val → Val → M Bool} (ho : TsM X E (compareOp op) g) (ha : PEm X E a ma) (hb : PEm X E b mb) (hm : behindInMarks op b = false := by first | exact nomark _ | rfl) : PEm X E (.Compare a [op] [b] pos) (mBl (mTst g ma mb)) := by
  obtain ⟨ta, pa, qa⟩ := ha.ex
  obtain ⟨tb, pb, qb⟩ := hb.ex
  obtain ⟨r, pr, qr⟩ := ho
  have wk : OpR X (compareOp op) (fun v w H Q => r v w H fun z H' => ∃ k, z = .bl k ∧ Q (.bl k) H') := by
    intro pins s σ H x y v u Q I rx ry h
    exact thn (pr pins s σ H x y v u _ I rx ry h) fun u' s' ⟨z, H', I', rz, k, ez, q⟩ => ⟨z, H', I', rz, by rw [ez]; exact q⟩
  refine ⟨_, pe_cmpR wk pa pb hm, fun io σ H env S Q er sr h => ?_⟩
  have h' : FinG X.K RB E io H (fun k H' => Q (.bl k) H') (mTst g ma mb env S) := fin_bind h fun c S1 io1 H1 v _ l s r h1 => by
    cases (show c = v from r)
    exact fin_here h1 s rfl
  exact run2 qa qb er sr h' fun io2 H2 S2 x y v w _ s2 r1 r2 h2 => qr io2 H2 S2 x y v w _ s2 r1 r2 h2
theorem ptm_chn {op op' : CmpOp} {g g' : Val → Val → M Bool} (ho : TsM X E (compareOp op) g) (ho' : TsM X E (compareOp op') g') (ha : PEm X E a ma) (hb : PEm X E b mb) (hc : PEm X E c mc)
    (hm : lastMarks [op, op'] [b, c] = false := by with_unfolding_all rfl) : PTm X E (.Compare a [op, op'] [b, c] pos) (mChn g g' ma mb mc) := by
  obtain ⟨ta, pa, qa⟩ := ha.ex
  obtain ⟨tb, pb, qb⟩ := hb.ex
  obtain ⟨tc, pc, qc⟩ := hc.ex
  obtain ⟨r, pr, qr⟩ := ho
  obtain ⟨r', pr', qr'⟩ := ho'
  refine ⟨_, pt_chain pr pr' pa pb pc hm, fun io σ H env S Q er sr h => ?_⟩
  refine run2 (g := fun x y S2 => (g x y S2).bind fun k S3 => if k = true then (mc env S3).bind fun z S4 => g' y z S4 else .ok false S3) qa qb er sr h fun io2 H2 S2 x y v w l2 s2 r1 r2 h2 => ?_
  refine qr io2 H2 S2 x y v w _ s2 r1 r2 (fin_bind h2 fun k S3 io3 H3 k' _ l3 s3 e3 h3 => ?_)
  cases (show k = k' from e3)
  cases k with
  | false => exact iteF ⟨false, rfl, fin_here h3 s3 rfl⟩
  | true =>
    refine iteT ?_
    refine qc io3 σ H3 env S3 _ (er.mono (l2.trans l3)) s3 (fin_bind h3 fun z S4 io4 H4 u _ l4 s4 r4 h4 => ?_)
    exact qr' io4 H4 S4 y z w u Q s4 (VR.mono (l3.trans l4) _ _ r2) r4 h4
theorem pem_of {t : Ev → M Bool} {te : TE} (he : PE X e te) (h : ∀ io σ H env S (Q : Bool → Hp → Prop), ER X.K io H env σ → SR X.K io H S → FinG X.K RB E io H Q (t env S) → te σ H fun z H' => ∃ k, z = .bl k ∧ Q k H')
    (mono : ∀ σ H (Q Q' : VK), (∀ z H', Q z H' → Q' z H') → te σ H Q → te σ H Q') : PEm X E e (mBl t) := by
  refine ⟨te, he, fun io σ H env S Q er sr q => ?_⟩
  have h' : FinG X.K RB E io H (fun k H' => Q (.bl k) H') (t env S) := fin_bind q fun c S1 io1 H1 v _ l s r h1 => by
    cases (show c = v from r)
    exact fin_here h1 s rfl
  refine mono σ H _ _ (fun z H' ⟨k, e, q⟩ => by rw [e]; exact q) (h io σ H env S _ er sr h')
theorem pem_un {op : UnaryOp} {g : Val → M Val} {r : V → Hp → VK → Prop} (ho : UnR X (unaryOp op) r) (hq : ∀ io H S x v Q, SR X.K io H S → VR X.K io H x v → FinG X.K (VR X.K) E io H Q (g x S) → r v H Q) (ha : PEm X E a ma) : PEm X E (.UnaryOp op a pos) (mUn g ma) := by
  obtain ⟨ta, pa, qa⟩ := ha.ex
  refine ⟨_, pe_un ho pa, fun io σ H env S Q er sr h => ?_⟩
  exact qa io σ H env S _ er sr (fin_bind h fun x S1 io1 H1 v _ l1 s1 r1 h1 => hq io1 H1 S1 x v Q s1 r1 h1)
theorem pam_nil : PAm X E [] mNil := ⟨_, pa_nil, fun io σ H env S Q er sr h => fin_here h sr rfl⟩
theorem pam_cons {me : Ev → M Val} {mr : Ev → M (List Val)} (ha : PEm X E e me) (hr : PAm X E es mr) (hs : starEach (e :: es) X.env = (false, eval e X.env) :: starEach es X.env := by rfl) : PAm X E (e :: es) (mCons me mr) := by
  obtain ⟨te, pe, qe⟩ := ha.ex
  obtain ⟨tr, pr, qr⟩ := hr.ex
  refine ⟨_, pa_cons pe pr hs, fun io σ H env S Q er sr h => ?_⟩
  refine qe io σ H env S _ er sr (fin_bind h fun x S1 io1 H1 v _ l1 s1 r1 h1 => ?_)
  refine qr io1 σ H1 env S1 _ (er.mono l1) s1 (fin_bind h1 fun xs S2 io2 H2 vs _ l2 s2 r2 h2 => ?_)
  exact fin_here h2 s2 ⟨v, vs, rfl, VR.mono l2 _ _ r1, r2⟩
theorem pem_tup {mr : Ev → M (List Val)} {k} (hr : PAm X E es mr) : PEm X E (.Tuple es k pos) (mTup mr) := by
  obtain ⟨tr, pr, qr⟩ := hr.ex
  refine ⟨_, pe_tup pr, fun io σ H env S Q er sr h => ?_⟩
  refine qr io σ H env S _ er sr (fin_bind h fun xs S1 io1 H1 vs _ l1 s1 r1 h1 => ?_)
  by_cases hl : xs.length ≤ lim
  · rw [if_pos hl] at h1
    refine ⟨by rw [r1.length]; exact lim_le hl, fun p hp => ?_⟩
    exact fin_ok h1 (Le.new hp) (s1.new hp) ⟨p, vs, rfl, .inl (.inl upd_same), VRs.mono (Le.new hp) _ _ r1⟩
  · rw [if_neg hl] at h1
    exact h1.elim
theorem fresh {K : PySem.W.Frag} {io io' : List Addr} {H H' : Hp} {S : Sto} {p : Addr} (l : Le K io H io' H') (s : SR K io' H' S) (hp : H' p = none) : H p = none ∧ p ∉ io' := by
  have h2 : p ∉ io' := fun hi => by
    obtain ⟨n, hn⟩ := List.getElem?_of_mem hi
    have hl := (List.getElem?_eq_some_iff.mp hn).1
    rw [s.len] at hl
    exact (s.obj n p _ hn (List.getElem?_eq_getElem hl)).some hp
  refine ⟨?_, h2⟩
  cases e : H p with
  | none => rfl
  | some o =>
    by_cases hi : p ∈ io
    · obtain ⟨n, hn⟩ := List.getElem?_of_mem hi
      exact absurd (List.mem_of_getElem? (l.ia n p hn)) h2
    · have := (l.fr p o e hi).1
      rw [hp] at this
      cases this
theorem plm_lst {mr : Ev → M (List Val)} (hr : PAm X E es mr) : PLm X E (.List es pos) (mLst mr) := by
  obtain ⟨tr, pr, qr⟩ := hr.ex
  refine ⟨_, pe_lst pr, fun io σ H env S Q er sr h => ?_⟩
  refine qr io σ H env S _ er sr (fin_bind h fun xs S1 io1 H1 vs _ l1 s1 r1 h1 => ?_)
  by_cases hl : xs.length ≤ lim
  · rw [if_pos hl] at h1
    refine ⟨by rw [r1.length]; exact lim_le hl, fun p hp => ?_⟩
    obtain ⟨f1, f2⟩ := fresh l1 s1 hp
    exact fin_ok h1 (Le.new hp) (s1.new hp) ⟨p, vs, rfl, upd_same, f1, f2, VRs.mono (Le.new hp) _ _ r1⟩
  · rw [if_neg hl] at h1
    exact h1.elim
/-- a list is put into the store -/
theorem pem_new {ml : Ev → M (List Val)} (hl : PLm X E e ml) : PEm X E e (mNew ml) := by
  obtain ⟨t, p, q⟩ := hl.ex
  refine ⟨t, p, fun io σ H env S Q er sr h => ?_⟩
  refine q io σ H env S Q er sr (fin_bind h fun xs S1 io1 H1 v eo l1 s1 r1 _ => ?_)
  obtain ⟨a, vs, rfl, hv, hb, hi, k⟩ := r1
  have h2 : FinG X.K (VR X.K) E io H Q (mNew ml env S) := h
  unfold mNew at h2
  rw [eo] at h2
  refine fin_ok h2 (l1.own hb hi) (s1.own hi hv k) ⟨a, ?_, rfl⟩
  rw [← s1.len, List.getElem?_append_right (Nat.le_refl _), Nat.sub_self]
  rfl
theorem pem_if (ht : PTm X E c ta) (ha : PEm X E a ma) (hb : PEm X E b mb) : PEm X E (.IfExp c a b pos) (mIf ta ma mb) := by
  obtain ⟨tt, pt, qt⟩ := ht.ex
  obtain ⟨t1, p1, q1⟩ := ha.ex
  obtain ⟨t2, p2, q2⟩ := hb.ex
  refine ⟨_, pe_ifExp pt p1 p2, fun io σ H env S Q er sr h => ?_⟩
  refine qt io σ H env S _ er sr (fin_bind h fun k S1 io1 H1 k' _ l1 s1 r1 h1 => ?_)
  cases (show k = k' from r1)
  cases k with
  | true => exact iteT (q1 io1 σ H1 env S1 Q (er.mono l1) s1 h1)
  | false => exact iteF (q2 io1 σ H1 env S1 Q (er.mono l1) s1 h1)
theorem ptm_not (ha : PTm X E a ta) : PTm X E (.UnaryOp .Not a pos) (mNot ta) := by
  obtain ⟨tt, pt, qt⟩ := ha.ex
  refine ⟨_, pt_not pt, fun io σ H env S Q er sr h => ?_⟩
  refine qt io σ H env S _ er sr (fin_bind h fun k S1 io1 H1 k' _ l1 s1 r1 h1 => ?_)
  cases (show k = k' from r1)
  exact fin_here h1 s1 rfl
theorem pwm_and1 (ha : PTm X E a ta) : PWm X E (.BoolOp .And [a] pos) ta := let ⟨t, p, q⟩ := ha.ex; ⟨t, pw_and1 p, q⟩
theorem pwm_or1 (ha : PTm X E a ta) : PWm X E (.BoolOp .Or [a] pos) ta := let ⟨t, p, q⟩ := ha.ex; ⟨t, pw_or1 p, q⟩
theorem pwm_and {rest : List Expr} (ha : PTm X E a ta) (hb : PWm X E (.BoolOp .And (b :: rest) pos) tb) : PWm X E (.BoolOp .And (a :: b :: rest) pos) (mAnd ta tb) := by
  obtain ⟨t1, p1, q1⟩ := ha.ex
  obtain ⟨t2, p2, q2⟩ := hb.ex
  refine ⟨_, pw_and p1 p2, fun io σ H env S Q er sr h => ?_⟩
  refine q1 io σ H env S _ er sr (fin_bind h fun k S1 io1 H1 k' _ l1 s1 r1 h1 => ?_)
  cases (show k = k' from r1)
  cases k with
  | true => exact iteT (q2 io1 σ H1 env S1 Q (er.mono l1) s1 h1)
  | false => exact iteF (fin_here h1 s1 rfl)
theorem pwm_or {rest : List Expr} (ha : PTm X E a ta) (hb : PWm X E (.BoolOp .Or (b :: rest) pos) tb) : PWm X E (.BoolOp .Or (a :: b :: rest) pos) (mOr ta tb) := by
  obtain ⟨t1, p1, q1⟩ := ha.ex
  obtain ⟨t2, p2, q2⟩ := hb.ex
  refine ⟨_, pw_or p1 p2, fun io σ H env S Q er sr h => ?_⟩
  refine q1 io σ H env S _ er sr (fin_bind h fun k S1 io1 H1 k' _ l1 s1 r1 h1 => ?_)
  cases (show k = k' from r1)
  cases k with
  | true => exact iteT (fin_here h1 s1 rfl)
  | false => exact iteF (q2 io1 σ H1 env S1 Q (er.mono l1) s1 h1)
theorem ptm_w (h : PWm X E e ta) : PTm X E e ta := let ⟨t, p, q⟩ := h.ex; ⟨t, p.pt, q⟩
theorem tru_of {io : List Addr} {H : Hp} {S : Sto} {x : Val} {v : V} {Q : Bool → Hp → Prop} (s : SR X.K io H S) (r : VR X.K io H x v) (h : FinG X.K RB E io H Q (truth x S)) : ∃ k, TruV X.K v H k ∧ Q k H := by
  cases x with
  | non => cases (show v = .non from r); exact ⟨false, rfl, fin_here h s rfl⟩
  | bl b => cases (show v = .bl b from r); exact ⟨b, rfl, fin_here h s rfl⟩
  | int i => cases (show v = .int i from r); exact ⟨_, rfl, fin_here h s rfl⟩
  | str x =>
    cases (show v = .str ⟨x.toArray⟩ from r)
    simp only [truth] at h
    by_cases hl : x.length ≤ lim
    · rw [if_pos hl] at h
      refine ⟨!x.isEmpty, ⟨?_, ?_⟩, fin_here h s rfl⟩
      · show x.toArray.size ≤ sizeLine
        rw [List.size_toArray]
        exact lim_le hl
      · cases x with
        | nil => rfl
        | cons c y =>
          show true = (((c :: y).toArray.size : Int) != 0)
          rw [List.size_toArray, List.length_cons]
          exact (bne_iff_ne.mpr (by omega)).symm
    · rw [if_neg hl] at h
      exact h.elim
  | tup xs =>
    obtain ⟨a, vs, rfl, hs, k⟩ := r
    refine ⟨!xs.isEmpty, .inr (.inl ⟨vs, hs, ?_⟩), fin_here h s rfl⟩
    cases xs with
    | nil => cases k; rfl
    | cons y ys => obtain ⟨_, _, rfl, _⟩ := k; rfl
  | loc n =>
    obtain ⟨a, hi, rfl⟩ := r
    simp only [truth] at h
    cases e : S[n]? with
    | none => rw [e] at h; exact h.elim
    | some o =>
      rw [e] at h
      have q := s.is e hi
      cases o with
      | lst xs =>
        obtain ⟨vs, hv, k⟩ := q
        refine ⟨!xs.isEmpty, .inl ⟨vs, SqL.of hv, ?_⟩, fin_here h s rfl⟩
        cases xs with
        | nil => cases k; rfl
        | cons y ys => obtain ⟨_, _, rfl, _⟩ := k; rfl
      | dic kvs =>
        obtain ⟨vs, hv, k⟩ := q
        refine ⟨!kvs.isEmpty, .inr (.inr ⟨_, hv, ?_⟩), fin_here h s rfl⟩
        cases kvs with
        | nil => rfl
        | cons y ys => obtain ⟨_, _, rfl, _⟩ := k; rfl
      | ins C fs => first | exact h.elim | (simp only [e] at h; first | exact h.elim | cases h) | (dsimp only at h; exact h.elim) | cases h
  | kl xs =>
    obtain ⟨a, vs, rfl, hs, k⟩ := r
    refine ⟨!xs.isEmpty, .inl ⟨vs, hs.sq, ?_⟩, fin_here h s rfl⟩
    cases xs with
    | nil => cases k; rfl
    | cons y ys => obtain ⟨_, _, rfl, _⟩ := k; rfl
  | ext a => exact h.elim
theorem ptm_tru (ha : PEm X E a ma) (he : ∀ whole, isTrue a X.env whole = (do let v ← whole; standAt a.pos; holding [v] (truthy v)) := by intro _; rfl) : PTm X E a (mTru ma) := by
  obtain ⟨t, p, q⟩ := ha.ex
  refine ⟨_, pt_truth p he, fun io σ H env S Q er sr h => ?_⟩
  exact q io σ H env S _ er sr (fin_bind h fun x S1 io1 H1 v _ l1 s1 r1 h1 => tru_of s1 r1 h1)
end
end Mx

set_option linter.all false
set_option maxRecDepth 100000
set_option maxHeartbeats 4000000
namespace Mx
open PySem PySem.Spec PyProof.Rows L2

/-! ### data -/
mutual
def datV (f : Nat → Option PyData) : Val → Option PyData
  | .non => some .none
  | .bl b => some (.bool b)
  | .int i => some (.int i)
  | .str x => some (.str ⟨x.toArray⟩)
  | .tup xs => (datVs f xs).map .tuple
  | .kl xs => (datVs f xs).map .list
  | .loc n => f n
  | .ext _ => none
def datVs (f : Nat → Option PyData) : List Val → Option (List PyData)
  | [] => some []
  | x :: xs => (datV f x).bind fun d => (datVs f xs).map (d :: ·)
end
def dat (S : Sto) : Nat → Val → Option PyData
  | 0 => datV fun _ => none
  | k + 1 => datV fun n => match S[n]? with
    | some (.lst xs) => (datVs (match dat S k with | g => fun m => g (.loc m)) xs).map .list
    | _ => none
mutual
theorem datV_plain {f : Nat → Option PyData} (hf : ∀ n d, f n = some d → d.plain = true) : ∀ (x : Val) (d : PyData), datV f x = some d → d.plain = true
  | .non, _, h => by cases h; rfl
  | .bl _, _, h => by cases h; rfl
  | .int _, _, h => by cases h; rfl
  | .str _, _, h => by cases h; rfl
  | .loc n, d, h => hf n d h
  | .ext _, _, h => nomatch h
  | .tup xs, d, h => by
    simp only [datV] at h
    cases e : datVs f xs with
    | none => rw [e] at h; cases h
    | some ds => rw [e] at h; cases h; exact datVs_plain hf xs ds e
  | .kl xs, d, h => by
    simp only [datV] at h
    cases e : datVs f xs with
    | none => rw [e] at h; cases h
    | some ds => rw [e] at h; cases h; exact datVs_plain hf xs ds e
theorem datVs_plain {f : Nat → Option PyData} (hf : ∀ n d, f n = some d → d.plain = true) : ∀ (xs : List Val) (ds : List PyData), datVs f xs = some ds → PyData.plainAll ds = true
  | [], _, h => by cases h; rfl
  | x :: xs, ds, h => by
    simp only [datVs] at h
    cases e : datV f x with
    | none => rw [e] at h; cases h
    | some d =>
      rw [e] at h
      cases e2 : datVs f xs with
      | none => simp [e2] at h
      | some es =>
        simp [e2] at h
        subst h
        simp only [PyData.plainAll, datV_plain hf x d e, datVs_plain hf xs es e2, Bool.and_self]
end
theorem dat_plain {S : Sto} : ∀ (k : Nat) (x : Val) (d : PyData), dat S k x = some d → d.plain = true
  | 0, x, d, h => datV_plain (fun _ _ h => by cases h) x d h
  | k + 1, x, d, h => by
    refine datV_plain (fun n d h => ?_) x d h
    cases e : S[n]? with
    | none => simp [e] at h
    | some o =>
      cases o with
      | lst xs =>
        simp only [e] at h
        cases e2 : datVs (fun m => dat S k (.loc m)) xs with
        | none => rw [e2] at h; cases h
        | some ds => rw [e2] at h; cases h; exact datVs_plain (fun m d h => dat_plain k (.loc m) d h) xs ds e2
      | _ => first | exact h.elim | (simp only [e] at h; first | exact h.elim | cases h) | (dsimp only at h; exact h.elim) | cases h
section
variable {K : PySem.W.Frag} {io : List Addr} {H : Hp} {S : Sto}
mutual
theorem datV_dp {f : Nat → Option PyData} (hf : ∀ n a d, io[n]? = some a → f n = some d → Dp K H (.ref a) d) : ∀ (x : Val) (v : V) (d : PyData), VR K io H x v → datV f x = some d → Dp K H v d
  | .non, _, _, r, h => by cases r; cases h; exact .non
  | .bl b, _, _, r, h => by cases r; cases h; exact .bl b
  | .int i, _, _, r, h => by cases r; cases h; exact .int i
  | .str x, _, _, r, h => by cases r; cases h; exact .str _
  | .loc n, _, d, ⟨a, hi, e⟩, h => by subst e; exact hf n a d hi h
  | .ext _, _, _, _, h => nomatch h
  | .tup xs, _, d, ⟨a, vs, e, hs, k⟩, h => by
    subst e
    simp only [datV] at h
    cases e : datVs f xs with
    | none => rw [e] at h; cases h
    | some ds => rw [e] at h; cases h; exact .tup hs (datVs_dp hf xs vs ds k e)
  | .kl xs, _, d, ⟨a, vs, e, hs, k⟩, h => by
    subst e
    simp only [datV] at h
    cases e : datVs f xs with
    | none => rw [e] at h; cases h
    | some ds => rw [e] at h; cases h; exact .lst hs.sq (datVs_dp hf xs vs ds k e)
theorem datVs_dp {f : Nat → Option PyData} (hf : ∀ n a d, io[n]? = some a → f n = some d → Dp K H (.ref a) d) : ∀ (xs : List Val) (vs : List V) (ds : List PyData), VRs K io H xs vs → datVs f xs = some ds → DpAll K H vs ds
  | [], _, _, r, h => by cases r; cases h; exact .nil
  | x :: xs, _, ds, ⟨v, ws, e, r, k⟩, h => by
    subst e
    simp only [datVs] at h
    cases e : datV f x with
    | none => rw [e] at h; cases h
    | some d =>
      rw [e] at h
      cases e2 : datVs f xs with
      | none => simp [e2] at h
      | some es =>
        simp [e2] at h
        subst h
        exact .cons (datV_dp hf x v d r e) (datVs_dp hf xs ws es k e2)
end
theorem dat_dp (s : SR K io H S) : ∀ (k : Nat) (x : Val) (v : V) (d : PyData), VR K io H x v → dat S k x = some d → Dp K H v d
  | 0, x, v, d, r, h => datV_dp (fun _ _ _ _ h => by cases h) x v d r h
  | k + 1, x, v, d, r, h => by
    refine datV_dp (fun n a d hi h => ?_) x v d r h
    cases e : S[n]? with
    | none => simp [e] at h
    | some o =>
      have q := s.is e hi
      cases o with
      | lst xs =>
        simp only [e] at h
        obtain ⟨vs, hv, kk⟩ := q
        cases e2 : datVs (fun m => dat S k (.loc m)) xs with
        | none => rw [e2] at h; cases h
        | some ds => rw [e2] at h; cases h; exact .lst (SqL.of hv) (datVs_dp (fun m a d hi h => dat_dp s k (.loc m) _ d ⟨a, hi, rfl⟩ h) xs vs ds kk e2)
      | _ => first | exact h.elim | (simp only [e] at h; first | exact h.elim | cases h) | (dsimp only at h; exact h.elim) | cases h
end
/-- how deep the store is followed for == -/
def deep : Nat := 20
def datL (xs : List Val) (S : Sto) : Option PyData := (datVs (fun m => dat S deep (.loc m)) xs).map .list
def datE (x : Val) (S : Sto) : Option PyData := dat S deep x

/-- an expression that gives a thing of some kind (R: how it lies, by the heap ahead of it) -/
structure PXm {α : Type} (X : Cx) (E : XK) (R : Hp → List Addr → Hp → α → V → Prop) (e : Expr) (m : Ev → M α) : Prop where
  ex : ∃ t, PE X e t ∧ ∀ io σ H env S Q, ER X.K io H env σ → SR X.K io H S → FinG X.K (R H) E io H Q (m env S) → t σ H Q
theorem PEm.x {X : Cx} {E : XK} {e : Expr} {m : Ev → M Val} (h : PEm X E e m) : PXm X E (fun _ => VR X.K) e m := ⟨h.ex⟩
theorem PLm.x {X : Cx} {E : XK} {e : Expr} {m : Ev → M (List Val)} (h : PLm X E e m) : PXm X E (RL X.K) e m := ⟨h.ex⟩
structure View {α : Type} (K : PySem.W.Frag) (R : Hp → List Addr → Hp → α → V → Prop) (D : α → Sto → Option PyData) : Prop where
  mono : ∀ {B H H' : Hp} {io io' : List Addr} {x : α} {v : V}, Le K io H io' H' → R B io H x v → R B io' H' x v
  dp : ∀ {B H : Hp} {io : List Addr} {S : Sto} {x : α} {v : V} {d : PyData}, SR K io H S → R B io H x v → D x S = some d → Dp K H v d ∧ d.plain = true
theorem viewE {K : PySem.W.Frag} : View K (fun _ => VR K) datE := ⟨fun l r => VR.mono l _ _ r, fun s r e => ⟨dat_dp s _ _ _ _ r e, dat_plain _ _ _ e⟩⟩
theorem RL.mono {K : PySem.W.Frag} {B H H' : Hp} {io io' : List Addr} {xs : List Val} {v : V} (l : Le K io H io' H') (r : RL K B io H xs v) : RL K B io' H' xs v := by
  obtain ⟨a, vs, e, hv, hb, hi, k⟩ := r
  exact ⟨a, vs, e, (l.fr a _ hv hi).1, hb, (l.fr a _ hv hi).2, VRs.mono l _ _ k⟩
theorem viewL {K : PySem.W.Frag} : View K (RL K) datL := ⟨RL.mono, fun {B H io S xs v d} s r e => by
  obtain ⟨a, vs, rfl, hv, hb, hi, k⟩ := r
  unfold datL at e
  cases e2 : datVs (fun m => dat S deep (.loc m)) xs with
  | none => rw [e2] at e; cases e
  | some ds =>
    rw [e2] at e
    cases e
    exact ⟨.lst (SqL.of hv) (datVs_dp (fun m a d hi h => dat_dp s deep (.loc m) _ d ⟨a, hi, rfl⟩ h) xs vs ds k e2), datVs_plain (fun m d h => dat_plain deep (.loc m) d h) xs ds e2⟩⟩

def mEq {α β : Type} (neg : Bool) (D : α → Sto → Option PyData) (D' : β → Sto → Option PyData) (a : Ev → M α) (b : Ev → M β) : Ev → M Bool := fun env S => (a env S).bind fun x S1 => (b env S1).bind fun y S2 =>
  match D x S2, D' y S2 with
  | some d, some e => if min d.depth e.depth ≤ 64 then .ok (if neg = true then !PyData.eqv d e else PyData.eqv d e) S2 else .bad
  | _, _ => .bad
def rEqP (K : PySem.W.Frag) (neg : Bool) : R2 := fun x y H Q => ∃ d e, Dp K H x d ∧ Dp K H y e ∧ d.plain = true ∧ e.plain = true ∧ min d.depth e.depth ≤ 64 ∧ Q (.bl (if neg = true then !PyData.eqv d e else PyData.eqv d e)) H
theorem op_eqP {X : Cx} (hu : X.A.units + 64 < cLine) : OpR X (compareOp .Eq) (rEqP X.K false) := by
  intro pins s σ H x y v u Q I rx ry h
  obtain ⟨d, e, hd, he, sd, se, hz, q⟩ := h
  obtain ⟨as, r1⟩ := Dp.reads I d x v hd rx
  obtain ⟨bs, r2⟩ := Dp.reads I e y u he ry
  exact SeqAt.eq_plain r1 r2 sd se (by omega) ⟨.bl _, H, I, rfl, q⟩
theorem op_neP {X : Cx} (hu : X.A.units + 64 < cLine) : OpR X (compareOp .NotEq) (rEqP X.K true) := by
  intro pins s σ H x y v u Q I rx ry h
  obtain ⟨d, e, hd, he, sd, se, hz, q⟩ := h
  obtain ⟨as, r1⟩ := Dp.reads I d x v hd rx
  obtain ⟨bs, r2⟩ := Dp.reads I e y u he ry
  exact SeqAt.ne_plain r1 r2 sd se (by omega) ⟨.bl _, H, I, rfl, q⟩
section
variable {X : Cx} {E : XK} {a b : Expr} {pos : Pos}
theorem ptm_eqG {α β : Type} {R : Hp → List Addr → Hp → α → V → Prop} {R' : Hp → List Addr → Hp → β → V → Prop} {D : α → Sto → Option PyData} {D' : β → Sto → Option PyData} {ma : Ev → M α} {mb : Ev → M β} {op : CmpOp} {neg : Bool}
    (ho : OpR X (compareOp op) (rEqP X.K neg)) (w : View X.K R D) (w' : View X.K R' D') (ha : PXm X E R a ma) (hb : PXm X E R' b mb) (hm : behindInMarks op b = false) : PTm X E (.Compare a [op] [b] pos) (mEq neg D D' ma mb) := by
  obtain ⟨ta, pa, qa⟩ := ha.ex
  obtain ⟨tb, pb, qb⟩ := hb.ex
  refine ⟨_, pt_cmpR ho pa pb hm, fun io σ H env S Q er sr h => ?_⟩
  refine qa io σ H env S _ er sr (fin_bind h fun x S1 io1 H1 v _ l1 s1 r1 h1 => ?_)
  refine qb io1 σ H1 env S1 _ (er.mono l1) s1 (fin_bind h1 fun y S2 io2 H2 u _ l2 s2 r2 h2 => ?_)
  cases e1 : D x S2 with
  | none => simp only [e1] at h2; exact h2.elim
  | some d =>
    cases e2 : D' y S2 with
    | none => simp only [e1, e2] at h2; exact h2.elim
    | some e =>
      simp only [e1, e2] at h2
      obtain ⟨d1, d2⟩ := w.dp s2 (w.mono l2 r1) e1
      obtain ⟨d3, d4⟩ := w'.dp s2 r2 e2
      by_cases hz : min d.depth e.depth ≤ 64
      · rw [if_pos hz] at h2
        exact ⟨d, e, d1, d3, d2, d4, hz, _, rfl, fin_here h2 s2 rfl⟩
      · rw [if_neg hz] at h2
        exact h2.elim
end
end Mx

set_option linter.all false
set_option maxRecDepth 100000
set_option maxHeartbeats 4000000
namespace Mx
open PySem PySem.Spec PyProof.Rows L2

/-! ### operators -/
def gAdd : Val → Val → M Val
  | .int i, .int j, S => .ok (.int (i + j)) S
  | .str x, .str y, S => if x.length + y.length ≤ lim then .ok (.str (x ++ y)) S else .bad
  | .tup x, .tup y, S => if x.length + y.length ≤ lim then .ok (.tup (x ++ y)) S else .bad
  | _, _, _ => .bad
def gSub : Val → Val → M Val
  | .int i, .int j, S => .ok (.int (i - j)) S
  | _, _, _ => .bad
def gMul : Val → Val → M Val
  | .int i, .int j, S => if i.natAbs < 2 ^ 64 ∨ j.natAbs < 2 ^ 64 then .ok (.int (i * j)) S else .bad
  | .str x, .int n, S => if x.length * n.toNat ≤ lim ∧ n.natAbs ≤ lim then .ok (.str (List.replicate n.toNat x).flatten) S else .bad
  | _, _, _ => .bad
def gDiv : Val → Val → M Val
  | .int i, .int j, S => if 0 < j ∧ j.natAbs < 2 ^ 64 then .ok (.int (i / j)) S else .bad
  | _, _, _ => .bad
def gMod : Val → Val → M Val
  | .int i, .int j, S => if 0 < j then .ok (.int (i % j)) S else .bad
  | _, _, _ => .bad
def gPow : Val → Val → M Val
  | .int i, .int j, S => if 0 ≤ j ∧ j ≤ 1000000 ∧ i.natAbs < 2 ^ 64 then .ok (.int (i ^ j.toNat)) S else .bad
  | _, _, _ => .bad
def gNeg : Val → M Val
  | .int i, S => .ok (.int (-i)) S
  | _, _ => .bad
section
variable {X : Cx} {E : XK}
theorem opm_add : OpM X E (binaryOp .Add) gAdd := by
  refine ⟨_, OpR.or op_add (OpR.or op_add_str op_catA), fun io H S x y v w Q s rx ry h => ?_⟩
  cases x with
  | int i =>
    cases y with
    | int j =>
      cases (show v = .int i from rx)
      cases (show w = .int j from ry)
      exact .inl ⟨i, j, rfl, rfl, fin_here h s rfl⟩
    | _ => exact h.elim
  | str x =>
    cases y with
    | str y =>
      cases (show v = .str _ from rx)
      cases (show w = .str _ from ry)
      simp only [gAdd] at h
      by_cases hl : x.length + y.length ≤ lim
      · rw [if_pos hl] at h
        refine .inr (.inl ⟨_, _, rfl, rfl, ?_, ?_⟩)
        · show x.toArray.size + y.toArray.size ≤ sizeLine
          rw [List.size_toArray, List.size_toArray]
          exact lim_le hl
        · have e : ((⟨x.toArray⟩ : Str) ++ (⟨y.toArray⟩ : Str)) = ⟨(x ++ y).toArray⟩ := by
            show (⟨x.toArray ++ y.toArray⟩ : Str) = _
            rw [List.append_toArray]
          rw [e]
          exact fin_here h s rfl
      · rw [if_neg hl] at h
        exact h.elim
    | _ => exact h.elim
  | tup x =>
    cases y with
    | tup y =>
      obtain ⟨a, vs, rfl, ha, k⟩ := rx
      obtain ⟨b, ws, rfl, hb, k2⟩ := ry
      simp only [gAdd] at h
      by_cases hl : x.length + y.length ≤ lim
      · rw [if_pos hl] at h
        have e1 := k.length
        have e2 := k2.length
        refine .inr (.inr ⟨a, b, vs, ws, rfl, rfl, ha, hb, by rw [e1, e2]; exact lim_le hl, fun z => ?_, fun _ z => ?_, fun _ _ p hp => ?_⟩)
        · subst z
          have ex : x = [] := List.eq_nil_of_length_eq_zero e1.symm
          subst ex
          exact fin_here h s ⟨b, ws, rfl, hb, k2⟩
        · subst z
          have ey : y = [] := List.eq_nil_of_length_eq_zero e2.symm
          subst ey
          rw [List.append_nil] at h
          exact fin_here h s ⟨a, vs, rfl, ha, k⟩
        · exact fin_ok h (Le.new hp) (s.new hp) ⟨p, _, rfl, .inl (.inl upd_same), VRs.mono (Le.new hp) _ _ (k.app k2)⟩
      · rw [if_neg hl] at h
        exact h.elim
    | _ => exact h.elim
  | _ => exact h.elim
theorem opm_sub : OpM X E (binaryOp .Sub) gSub := by
  refine ⟨_, op_sub, fun io H S x y v w Q s rx ry h => ?_⟩
  cases x with
  | int i =>
    cases y with
    | int j =>
      cases (show v = .int i from rx)
      cases (show w = .int j from ry)
      exact ⟨i, j, rfl, rfl, fin_here h s rfl⟩
    | _ => exact h.elim
  | _ => exact h.elim
theorem small_log {i : Int} (h : i.natAbs < 2 ^ 64) : -(2 ^ 64) < i ∧ i < 2 ^ 64 := by omega
theorem fold_rep (x : List Nat) : ∀ (n : Nat) (acc : List Nat), (List.replicate n x.toArray).foldl (fun a b => a ++ b) acc.toArray = (acc ++ (List.replicate n x).flatten).toArray
  | 0, acc => by simp
  | n + 1, acc => by
    rw [List.replicate_succ, List.foldl_cons, List.append_toArray, fold_rep x n, List.replicate_succ, List.flatten_cons, List.append_assoc]
theorem op_mul_strI : OpR X (binaryOp .Mult) (fun x y H Q => ∃ (z : List Nat) (n : Int), x = .str ⟨z.toArray⟩ ∧ y = .int n ∧ z.length * n.toNat ≤ lim ∧ n.natAbs ≤ lim ∧ Q (.str ⟨((List.replicate n.toNat z).flatten).toArray⟩) H) := by
  intro pins s σ H x y v u Q I rx ry h
  obtain ⟨z, n, rfl, rfl, hl, hn, q⟩ := h
  obtain ⟨t, rfl⟩ := rx
  obtain ⟨t2, rfl⟩ := ry
  have hz : (⟨z.toArray⟩ : Str).length = z.length := List.size_toArray
  have c0 : (decide (n < -(2 ^ 63 : Int)) || decide (n ≥ 2 ^ 63)) = false := by
    have h1 : lim = 100000 := rfl
    rw [decide_eq_false (by omega), decide_eq_false (by omega)]
    rfl
  refine P.mul_str c0 (fun h1 _ hb => ?_) (fun h1 _ => ?_) ?_
  · rw [hz] at hb
    have h3 : ((z.length : Int)) * n ≤ 100000 := by
      have e : n = (n.toNat : Int) := by omega
      rw [e, ← Int.natCast_mul]
      have : lim = 100000 := rfl
      omega
    have h4 : (2 ^ 63 - 1) / n < (z.length : Int) := hb
    have h5 : (2 ^ 63 - 1 : Int) < z.length * n := by
      have := Int.lt_mul_of_ediv_lt (show (0 : Int) < n by omega) h4
      exact this
    omega
  · rw [hz]
    have h2 := lim_le hl
    exact decide_eq_false (by omega)
  · by_cases h1 : n < 1
    · rw [if_pos h1]
      have e : n.toNat = 0 := by omega
      rw [e] at q
      exact ⟨by decide, .str _, H, I.tok _, ⟨_, rfl⟩, q⟩
    · rw [if_neg h1]
      by_cases h2 : (n == 1 || (⟨z.toArray⟩ : Str).length == 0) = true
      · rw [if_pos h2]
        have e : (List.replicate n.toNat z).flatten = z := by
          rw [hz, Bool.or_eq_true] at h2
          rcases h2 with h2 | h2
          · have : n.toNat = 1 := by have := eq_of_beq h2; omega
            rw [this]
            simp
          · have : z = [] := List.eq_nil_of_length_eq_zero (eq_of_beq h2)
            rw [this]
            simp
        rw [e] at q
        exact ⟨.str _, H, I, ⟨_, rfl⟩, q⟩
      · rw [if_neg h2]
        have e : (List.replicate n.toNat z.toArray).foldl (fun a b => a ++ b) #[] = ((List.replicate n.toNat z).flatten).toArray := by
          have := fold_rep z n.toNat []
          rw [List.nil_append] at this
          exact this
        refine ⟨?_, .str _, H, I.tok _, ⟨_, rfl⟩, ?_⟩
        · show ((List.replicate n.toNat z.toArray).foldl (fun a b => a ++ b) #[]).size ≤ sizeLine
          rw [e, List.size_toArray]
          refine lim_le ?_
          rw [List.length_flatten, List.map_replicate, List.sum_replicate_nat, Nat.mul_comm]
          exact hl
        · rw [← e] at q
          exact q
theorem opm_mul : OpM X E (binaryOp .Mult) gMul := by
  refine ⟨_, OpR.or op_mul op_mul_strI, fun io H S x y v w Q s rx ry h => ?_⟩
  cases x with
  | int i =>
    cases y with
    | int j =>
      cases (show v = .int i from rx)
      cases (show w = .int j from ry)
      simp only [gMul] at h
      by_cases hl : i.natAbs < 2 ^ 64 ∨ j.natAbs < 2 ^ 64
      · rw [if_pos hl] at h
        refine .inl ⟨i, j, rfl, rfl, ?_, fin_here h s rfl⟩
        rcases hl with hl | hl
        · exact .inl (small_log hl)
        · exact .inr (small_log hl)
      · rw [if_neg hl] at h
        exact h.elim
    | _ => exact h.elim
  | str x =>
    cases y with
    | int n =>
      cases (show v = .str _ from rx)
      cases (show w = .int n from ry)
      simp only [gMul] at h
      by_cases hl : x.length * n.toNat ≤ lim ∧ n.natAbs ≤ lim
      · rw [if_pos hl] at h
        exact .inr ⟨x, n, rfl, rfl, hl.1, hl.2, fin_here h s rfl⟩
      · rw [if_neg hl] at h
        exact h.elim
    | _ => exact h.elim
  | _ => exact h.elim
theorem opm_div : OpM X E (binaryOp .FloorDiv) gDiv := by
  refine ⟨_, op_fdivW, fun io H S x y v w Q s rx ry h => ?_⟩
  cases x with
  | int i =>
    cases y with
    | int j =>
      cases (show v = .int i from rx)
      cases (show w = .int j from ry)
      simp only [gDiv] at h
      by_cases hl : 0 < j ∧ j.natAbs < 2 ^ 64
      · rw [if_pos hl] at h
        exact ⟨i, j, rfl, rfl, wide_div hl.1 hl.2 (by decide) (by decide), fin_here h s rfl⟩
      · rw [if_neg hl] at h
        exact h.elim
    | _ => exact h.elim
  | _ => exact h.elim
theorem opm_mod : OpM X E (binaryOp .Mod) gMod := by
  refine ⟨_, op_mod, fun io H S x y v w Q s rx ry h => ?_⟩
  cases x with
  | int i =>
    cases y with
    | int j =>
      cases (show v = .int i from rx)
      cases (show w = .int j from ry)
      simp only [gMod] at h
      by_cases hl : 0 < j
      · rw [if_pos hl] at h
        exact ⟨i, j, rfl, rfl, hl, fin_here h s rfl⟩
      · rw [if_neg hl] at h
        exact h.elim
    | _ => exact h.elim
  | _ => exact h.elim
theorem opm_pow : OpM X E (binaryOp .Pow) gPow := by
  refine ⟨_, op_pow, fun io H S x y v w Q s rx ry h => ?_⟩
  cases x with
  | int i =>
    cases y with
    | int j =>
      cases (show v = .int i from rx)
      cases (show w = .int j from ry)
      simp only [gPow] at h
      by_cases hl : 0 ≤ j ∧ j ≤ 1000000 ∧ i.natAbs < 2 ^ 64
      · rw [if_pos hl] at h
        exact ⟨i, j, rfl, rfl, hl, fin_here h s rfl⟩
      · rw [if_neg hl] at h
        exact h.elim
    | _ => exact h.elim
  | _ => exact h.elim
theorem pem_neg {a : Expr} {ma : Ev → M Val} {pos : Pos} (ha : PEm X E a ma) : PEm X E (.UnaryOp .USub a pos) (mUn gNeg ma) :=
  pem_un un_neg (fun io H S x v Q s r h => by
    cases x with
    | int i => cases (show v = .int i from r); exact ⟨i, rfl, fin_here h s rfl⟩
    | _ => exact h.elim) ha

/-! ### comparisons -/
def gCmp (p : Int → Int → Bool) : Val → Val → M Bool
  | .int i, .int j, S => .ok (p i j) S
  | _, _, _ => .bad
theorem tsm_int {op : CmpOp} {p : Int → Int → Bool} (ho : OpR X (compareOp op) (rI0 fun i j => .bl (p i j))) : TsM X E (compareOp op) (gCmp p) := by
  refine ⟨_, ho, fun io H S x y v w Q s rx ry h => ?_⟩
  cases x with
  | int i =>
    cases y with
    | int j =>
      cases (show v = .int i from rx)
      cases (show w = .int j from ry)
      exact ⟨i, j, rfl, rfl, _, rfl, fin_here h s rfl⟩
    | _ => exact h.elim
  | _ => exact h.elim
theorem tsm_lt : TsM X E (compareOp .Lt) (gCmp fun i j => decide (i < j)) := tsm_int op_lt
theorem tsm_le : TsM X E (compareOp .LtE) (gCmp fun i j => decide (i ≤ j)) := tsm_int op_le
theorem tsm_gt : TsM X E (compareOp .Gt) (gCmp fun i j => decide (j < i)) := tsm_int op_gt
theorem tsm_ge : TsM X E (compareOp .GtE) (gCmp fun i j => decide (j ≤ i)) := tsm_int op_ge
/-- x is None -/
def gIsN (neg : Bool) : Val → Val → M Bool
  | x, .non, S => .ok (match x with | .non => !neg | _ => neg) S
  | _, _, _ => .bad
theorem tsm_isN : TsM X E (compareOp .Is) (gIsN false) := by
  refine ⟨_, op_isN, fun io H S x y v w Q s rx ry h => ?_⟩
  cases y with
  | non =>
    cases (show w = .non from ry)
    refine ⟨rfl, _, rfl, ?_⟩
    have e : decide (v = .non) = (match x with | .non => true | _ => false) := by
      cases x with
      | non => cases (show v = .non from rx); rfl
      | bl b => cases (show v = _ from rx); rfl
      | int b => cases (show v = _ from rx); rfl
      | str b => cases (show v = _ from rx); rfl
      | ext b => cases (show v = _ from rx); rfl
      | tup xs => obtain ⟨a, vs, rfl, _⟩ := rx; rfl
      | kl xs => obtain ⟨a, vs, rfl, _⟩ := rx; rfl
      | loc n => obtain ⟨a, _, rfl⟩ := rx; rfl
    rw [e]
    exact fin_here h s (by cases x <;> rfl)
  | _ => exact h.elim
theorem tsm_notN : TsM X E (compareOp .IsNot) (gIsN true) := by
  refine ⟨_, op_notN, fun io H S x y v w Q s rx ry h => ?_⟩
  cases y with
  | non =>
    cases (show w = .non from ry)
    refine ⟨rfl, _, rfl, ?_⟩
    have e : (!decide (v = .non)) = (match x with | .non => false | _ => true) := by
      cases x with
      | non => cases (show v = .non from rx); rfl
      | bl b => cases (show v = _ from rx); rfl
      | int b => cases (show v = _ from rx); rfl
      | str b => cases (show v = _ from rx); rfl
      | ext b => cases (show v = _ from rx); rfl
      | tup xs => obtain ⟨a, vs, rfl, _⟩ := rx; rfl
      | kl xs => obtain ⟨a, vs, rfl, _⟩ := rx; rfl
      | loc n => obtain ⟨a, _, rfl⟩ := rx; rfl
    rw [e]
    exact fin_here h s (by cases x <;> rfl)
  | _ => exact h.elim
/-- one sign in a text; a thing among those of a tuple, of a list of the store -/
def gIn (neg : Bool) : Val → Val → M Bool
  | .str [c], .str z, S => .ok (if neg = true then !decide (c ∈ z) else decide (c ∈ z)) S
  | x, .tup ys, S => match datE x S, datVs (fun m => dat S deep (.loc m)) ys with
    | some d, some ds => if d.depth ≤ 64 then .ok (if neg = true then !ds.any (fun y => PyData.eqv y d) else ds.any fun y => PyData.eqv y d) S else .bad
    | _, _ => .bad
  | x, .loc n, S => match S[n]? with
    | some (.lst ys) => (match datE x S, datVs (fun m => dat S deep (.loc m)) ys with
      | some d, some ds => if d.depth ≤ 64 then .ok (if neg = true then !ds.any (fun y => PyData.eqv y d) else ds.any fun y => PyData.eqv y d) S else .bad
      | _, _ => .bad)
    | _ => .bad
  | _, _, _ => .bad
def rInD (K : PySem.W.Frag) (neg : Bool) : R2 := fun x y H Q => ∃ d ds, Dp K H x d ∧ (Dp K H y (.tuple ds) ∨ Dp K H y (.list ds)) ∧ d.plain = true ∧ PyData.plainAll ds = true ∧ d.depth ≤ 64 ∧ Q (.bl (if neg = true then !ds.any (fun y => PyData.eqv y d) else ds.any fun y => PyData.eqv y d)) H
theorem op_inD (hu : X.A.units + 66 < cLine) : OpR X (compareOp .In) (rInD X.K false) := by
  intro pins s σ H x y v u Q I rx ry h
  obtain ⟨d, ds, hd, he, sd, se, hz, q⟩ := h
  obtain ⟨as, r1⟩ := Dp.reads I d x v hd rx
  have hu2 : X.A.units + 1 + min (PyData.depthAll ds) d.depth < cLine := by omega
  rcases he with he | he
  · obtain ⟨bs, r2⟩ := Dp.reads I _ y u he ry
    exact SeqAt.in_tuple_data r2 r1 se sd hu2 ⟨.bl _, H, I, rfl, q⟩
  · obtain ⟨bs, r2⟩ := Dp.reads I _ y u he ry
    exact SeqAt.in_list_data r2 r1 se sd hu2 ⟨.bl _, H, I, rfl, q⟩
theorem op_niD (hu : X.A.units + 66 < cLine) : OpR X (compareOp .NotIn) (rInD X.K true) := by
  intro pins s σ H x y v u Q I rx ry h
  obtain ⟨d, ds, hd, he, sd, se, hz, q⟩ := h
  obtain ⟨as, r1⟩ := Dp.reads I d x v hd rx
  have hu2 : X.A.units + 1 + min (PyData.depthAll ds) d.depth < cLine := by omega
  rcases he with he | he
  · obtain ⟨bs, r2⟩ := Dp.reads I _ y u he ry
    exact SeqAt.notIn_tuple_data r2 r1 se sd hu2 ⟨.bl _, H, I, rfl, q⟩
  · obtain ⟨bs, r2⟩ := Dp.reads I _ y u he ry
    exact SeqAt.notIn_list_data r2 r1 se sd hu2 ⟨.bl _, H, I, rfl, q⟩
theorem in_fin {neg : Bool} {r1 : R2} (e1 : ∀ (c : Nat) (z : List Nat) (H : Hp) (Q : VK), Q (.bl (if neg = true then !decide (c ∈ z) else decide (c ∈ z))) H → r1 (.str ⟨[c].toArray⟩) (.str ⟨z.toArray⟩) H Q)
    (io : List Addr) (H : Hp) (S : Sto) (x y : Val) (v w : V) (Q : Bool → Hp → Prop) (s : SR X.K io H S) (rx : VR X.K io H x v) (ry : VR X.K io H y w) (h : FinG X.K RB E io H Q (gIn neg x y S)) :
    (fun v w H Q => r1 v w H Q ∨ rInD X.K neg v w H Q) v w H (fun z H' => ∃ k, z = .bl k ∧ Q k H') := by
  have core : ∀ (ys : List Val) (mk : List PyData → PyData), (∀ ds, datVs (fun m => dat S deep (.loc m)) ys = some ds → (Dp X.K H w (.tuple ds) ∨ Dp X.K H w (.list ds)) ∧ PyData.plainAll ds = true) →
      FinG X.K RB E io H Q (match datE x S, datVs (fun m => dat S deep (.loc m)) ys with
        | some d, some ds => if d.depth ≤ 64 then .ok (if neg = true then !ds.any (fun y => PyData.eqv y d) else ds.any fun y => PyData.eqv y d) S else .bad
        | _, _ => .bad) → rInD X.K neg v w H (fun z H' => ∃ k, z = .bl k ∧ Q k H') := fun ys mk hy h => by
    cases e1 : datE x S with
    | none => simp only [e1] at h; exact h.elim
    | some d =>
      cases e2 : datVs (fun m => dat S deep (.loc m)) ys with
      | none => simp only [e1, e2] at h; exact h.elim
      | some ds =>
        simp only [e1, e2] at h
        obtain ⟨h1, h2⟩ := hy ds e2
        by_cases hz : d.depth ≤ 64
        · rw [if_pos hz] at h
          exact ⟨d, ds, dat_dp s _ _ _ _ rx e1, h1, dat_plain _ _ _ e1, h2, hz, _, rfl, fin_here h s rfl⟩
        · rw [if_neg hz] at h
          exact h.elim
  cases y with
  | str z =>
    cases x with
    | str c =>
      cases c with
      | nil => exact h.elim
      | cons c r =>
        cases r with
        | cons _ _ => exact h.elim
        | nil =>
          cases (show v = .str _ from rx)
          cases (show w = .str _ from ry)
          exact .inl (e1 c z H _ ⟨_, rfl, fin_here h s rfl⟩)
    | _ => exact h.elim
  | tup ys =>
    obtain ⟨b, ws, rfl, hb, k⟩ := ry
    refine .inr (core ys .tuple (fun ds e => ⟨.inl (.tup hb (datVs_dp (fun m a d hi h => dat_dp s deep (.loc m) _ d ⟨a, hi, rfl⟩ h) ys ws ds k e)), datVs_plain (fun m d h => dat_plain deep (.loc m) d h) ys ds e⟩) ?_)
    cases x with
    | str c => cases c with
      | nil => exact h
      | cons _ r => cases r <;> exact h
    | _ => exact h
  | loc n =>
    obtain ⟨b, hi, rfl⟩ := ry
    have h : FinG X.K RB E io H Q (match S[n]? with
      | some (.lst ys) => (match datE x S, datVs (fun m => dat S deep (.loc m)) ys with
        | some d, some ds => if d.depth ≤ 64 then .ok (if neg = true then !ds.any (fun y => PyData.eqv y d) else ds.any fun y => PyData.eqv y d) S else .bad
        | _, _ => .bad)
      | _ => .bad) := by
      cases x with
      | str c => cases c with
        | nil => exact h
        | cons _ r => cases r <;> exact h
      | _ => exact h
    cases e : S[n]? with
    | none => rw [e] at h; exact h.elim
    | some o =>
      rw [e] at h
      have q := s.is e hi
      cases o with
      | lst ys =>
        obtain ⟨ws, hv, k⟩ := q
        exact .inr (core ys .list (fun ds e => ⟨.inr (.lst (SqL.of hv) (datVs_dp (fun m a d hi h => dat_dp s deep (.loc m) _ d ⟨a, hi, rfl⟩ h) ys ws ds k e)), datVs_plain (fun m d h => dat_plain deep (.loc m) d h) ys ds e⟩) h)
      | _ => first | exact h.elim | (simp only [e] at h; first | exact h.elim | cases h) | (dsimp only at h; exact h.elim) | cases h
  | kl _ => cases x <;> first | exact h.elim | (rename_i c; cases c <;> first | exact h.elim | (rename_i _ r; cases r <;> exact h.elim))
  | non => cases x <;> first | exact h.elim | (rename_i c; cases c <;> first | exact h.elim | (rename_i _ r; cases r <;> exact h.elim))
  | bl _ => cases x <;> first | exact h.elim | (rename_i c; cases c <;> first | exact h.elim | (rename_i _ r; cases r <;> exact h.elim))
  | int _ => cases x <;> first | exact h.elim | (rename_i c; cases c <;> first | exact h.elim | (rename_i _ r; cases r <;> exact h.elim))
  | ext _ => cases x <;> first | exact h.elim | (rename_i c; cases c <;> first | exact h.elim | (rename_i _ r; cases r <;> exact h.elim))
theorem tsm_in (hu : X.A.units + 66 < cLine) : TsM X E (compareOp .In) (gIn false) :=
  ⟨_, OpR.or op_in_sign (op_inD hu), in_fin (X := X) (neg := false) (r1 := fun x y H Q => ∃ (c : Nat) (z : Str), x = .str ⟨#[c]⟩ ∧ y = .str z ∧ Q (.bl (decide (c ∈ z.cps.toList))) H) fun c z H Q q => ⟨c, ⟨z.toArray⟩, rfl, rfl, by
    have e : decide (c ∈ (⟨z.toArray⟩ : Str).cps.toList) = decide (c ∈ z) := by rw [List.toList_toArray]
    rw [e]; exact q⟩⟩
theorem tsm_notIn (hu : X.A.units + 66 < cLine) : TsM X E (compareOp .NotIn) (gIn true) :=
  ⟨_, OpR.or op_notIn_sign (op_niD hu), in_fin (X := X) (neg := true) (r1 := fun x y H Q => ∃ (c : Nat) (z : Str), x = .str ⟨#[c]⟩ ∧ y = .str z ∧ Q (.bl (!decide (c ∈ z.cps.toList))) H) fun c z H Q q => ⟨c, ⟨z.toArray⟩, rfl, rfl, by
    have e : (!decide (c ∈ (⟨z.toArray⟩ : Str).cps.toList)) = !decide (c ∈ z) := by rw [List.toList_toArray]
    rw [e]; exact q⟩⟩
end
end Mx

set_option linter.all false
set_option maxRecDepth 100000
set_option maxHeartbeats 4000000
namespace Mx
open PySem PySem.Spec PyProof.Rows L2

/-! ### items and slices -/
def gIx : Val → Val → M Val
  | .str z, .int i, S => if z.length ≤ lim then (match atI z i with | some c => .ok (.str [c]) S | none => .bad) else .bad
  | .tup xs, .int i, S => match atI xs i with | some x => .ok x S | none => .bad
  | .loc n, .int i, S => match S[n]? with
    | some (.lst xs) => (match atI xs i with | some x => .ok x S | none => .bad)
    | _ => .bad
  | .kl xs, .int i, S => match atI xs i with | some x => .ok x S | none => .bad
  | _, _, _ => .bad
section
variable {K : PySem.W.Frag} {io : List Addr} {H : Hp}
theorem VRs.atI {xs : List Val} {vs : List V} {i : Int} {x : Val} (k : VRs K io H xs vs) (h : atI xs i = some x) : ∃ v, L2.atI vs i = some v ∧ VR K io H x v := by
  unfold L2.atI at h ⊢
  rw [k.length]
  cases e : ixN xs.length i with
  | none => rw [e] at h; cases h
  | some j =>
    rw [e] at h
    have h' : xs[j]? = some x := h
    obtain ⟨v, e2, r⟩ := k.get h'
    exact ⟨v, e2, r⟩
theorem VRs.cut {xs : List Val} {vs : List V} (lo hi : Option Int) (k : VRs K io H xs vs) : VRs K io H ((xs.drop (HT.sIx xs.length 0 lo)).take (HT.sIx xs.length xs.length hi - HT.sIx xs.length 0 lo)) (cutV vs lo hi) := by
  unfold cutV
  rw [k.length]
  exact (k.drop _).take _
end
section
variable {X : Cx} {E : XK} {a b e : Expr} {ma mb : Ev → M Val} {pos : Pos}
theorem pem_ix (ha : PEm X E a ma) (hb : PEm X E b mb) (hs : PlainIx b := by exact fun _ _ => rfl) : PEm X E (.Subscript a b pos) (mOp gIx ma mb) := by
  obtain ⟨ta, pa, qa⟩ := ha.ex
  obtain ⟨tb, pb, qb⟩ := hb.ex
  refine ⟨_, pe_ix ix_seq pa pb hs, fun io σ H env S Q er sr h => ?_⟩
  refine run2 qa qb er sr h fun io2 H2 S2 x y v w l2 s r1 r2 h => ?_
  cases x with
  | str z =>
    cases y with
    | int i =>
      cases (show v = .str _ from r1)
      cases (show w = .int i from r2)
      simp only [gIx] at h
      by_cases hl : z.length ≤ lim
      · rw [if_pos hl] at h
        cases ei : atI z i with
        | none => simp only [ei] at h; exact h.elim
        | some c =>
          simp only [ei] at h
          refine .inr (.inr ⟨⟨z.toArray⟩, i, c, rfl, rfl, ?_, ?_, fin_here h s rfl⟩)
          · show z.toArray.size ≤ sizeLine
            rw [List.size_toArray]
            exact lim_le hl
          · rw [List.toList_toArray]
            exact ei
      · rw [if_neg hl] at h
        exact h.elim
    | _ => exact h.elim
  | tup xs =>
    cases y with
    | int i =>
      obtain ⟨p, vs, rfl, hp, k⟩ := r1
      cases (show w = .int i from r2)
      simp only [gIx] at h
      cases ei : atI xs i with
      | none => simp only [ei] at h; exact h.elim
      | some x =>
        simp only [ei] at h
        obtain ⟨u, e2, r⟩ := k.atI ei
        exact .inr (.inl ⟨p, vs, i, u, rfl, rfl, hp, e2, fin_here h s r⟩)
    | _ => exact h.elim
  | loc n =>
    cases y with
    | int i =>
      obtain ⟨p, hi, rfl⟩ := r1
      cases (show w = .int i from r2)
      simp only [gIx] at h
      cases eo : S2[n]? with
      | none => simp only [eo] at h; exact h.elim
      | some o =>
        have q := s.is eo hi
        cases o with
        | lst xs =>
          simp only [eo] at h
          obtain ⟨vs, hv, k⟩ := q
          cases ei : atI xs i with
          | none => simp only [ei] at h; exact h.elim
          | some x =>
            simp only [ei] at h
            obtain ⟨u, e2, r⟩ := k.atI ei
            exact .inl ⟨p, vs, i, u, rfl, rfl, SqL.of hv, e2, fin_here h s r⟩
        | _ => first | exact h.elim | (simp only [eo] at h; first | exact h.elim | cases h) | (dsimp only at h; exact h.elim) | cases h
    | _ => exact h.elim
  | kl xs =>
    cases y with
    | int i =>
      obtain ⟨p, vs, rfl, hp, k⟩ := r1
      cases (show w = .int i from r2)
      simp only [gIx] at h
      cases ei : atI xs i with
      | none => simp only [ei] at h; exact h.elim
      | some x =>
        simp only [ei] at h
        obtain ⟨u, e2, r⟩ := k.atI ei
        exact .inl ⟨p, vs, i, u, rfl, rfl, hp.sq, e2, fin_here h s r⟩
    | _ => exact h.elim
  | _ => exact h.elim
structure POm (X : Cx) (E : XK) (e : Option Expr) (m : Ev → M (Option Int)) : Prop where
  ex : ∃ t, PO X e t ∧ ∀ io σ H env S Q, ER X.K io H env σ → SR X.K io H S → FinG X.K (fun _ _ (x y : Option Int) => x = y) E io H Q (m env S) → t σ H Q
def mPart (a : Ev → M Val) : Ev → M (Option Int) := fun env S => (a env S).bind fun x S1 => match x with | .int i => .ok (some i) S1 | _ => .bad
def mNoPart : Ev → M (Option Int) := fun _ S => .ok none S
theorem pom_none : POm X E none mNoPart := ⟨_, po_none, fun io σ H env S Q er sr h => fin_here h sr rfl⟩
theorem pom_some (ha : PEm X E a ma) : POm X E (some a) (mPart ma) := by
  obtain ⟨ta, pa, qa⟩ := ha.ex
  refine ⟨_, po_some pa, fun io σ H env S Q er sr h => ?_⟩
  refine qa io σ H env S _ er sr (fin_bind h fun x S1 io1 H1 v _ l1 s1 r1 h1 => ?_)
  cases x with
  | int i => cases (show v = .int i from r1); exact ⟨i, rfl, fin_here h1 s1 rfl⟩
  | _ => exact h1.elim
/-- the part of a row from lo on below hi -/
def cut {α : Type} (xs : List α) (lo hi : Option Int) : List α := (xs.drop (HT.sIx xs.length 0 lo)).take (HT.sIx xs.length xs.length hi - HT.sIx xs.length 0 lo)
def gSl (lo hi : Option Int) : Val → M Val
  | .str z, S => if z.length ≤ lim then .ok (.str (cut z lo hi)) S else .bad
  | .tup xs, S => .ok (.tup (cut xs lo hi)) S
  | .loc n, S => match S[n]? with
    | some (.lst xs) => .ok (.loc S.length) (S ++ [.lst (cut xs lo hi)])
    | _ => .bad
  | .kl xs, S => .ok (.loc S.length) (S ++ [.lst (cut xs lo hi)])
  | _, _ => .bad
def mSl (a : Ev → M Val) (lo hi : Ev → M (Option Int)) : Ev → M Val := fun env S => (a env S).bind fun x S1 => (lo env S1).bind fun l S2 => (hi env S2).bind fun u S3 => gSl l u x S3
theorem newL_fin {io : List Addr} {H : Hp} {S : Sto} {xs : List Val} {vs : List V} {p : Addr} {Q : VK} (s : SR X.K io H S) (k : VRs X.K io H xs vs) (hp : H p = none) (h : FinG X.K (VR X.K) E io H Q (.ok (.loc S.length) (S ++ [.lst xs]))) : Q (.ref p) (upd H p (.lst vs)) := by
  refine fin_ok h (Le.newL hp) (s.newL hp k) ⟨p, ?_, rfl⟩
  rw [← s.len, List.getElem?_append_right (Nat.le_refl _), Nat.sub_self]
  rfl
theorem pem_slice {lo hi : Option Expr} {ml mh : Ev → M (Option Int)} {p2 : Pos} (ha : PEm X E a ma) (hl : POm X E lo ml) (hh : POm X E hi mh) : PEm X E (.Subscript a (.Slice lo hi none p2) pos) (mSl ma ml mh) := by
  obtain ⟨ta, pa, qa⟩ := ha.ex
  obtain ⟨tl, pl, ql⟩ := hl.ex
  obtain ⟨th, ph, qh⟩ := hh.ex
  refine ⟨_, pe_slice (SlR.or sl_list (SlR.or sl_tupA sl_str)) pa pl ph, fun io σ H env S Q er sr h => ?_⟩
  refine qa io σ H env S _ er sr (fin_bind h fun x S1 io1 H1 v _ l1 s1 r1 h1 => ?_)
  refine ql io1 σ H1 env S1 _ (er.mono l1) s1 (fin_bind h1 fun l S2 io2 H2 l' _ l2 s2 r2 h2 => ?_)
  refine qh io2 σ H2 env S2 _ (er.mono (l1.trans l2)) s2 (fin_bind h2 fun u S3 io3 H3 u' _ l3 s3 r3 h3 => ?_)
  cases (show l = l' from r2)
  cases (show u = u' from r3)
  have r := VR.mono (l2.trans l3) _ _ r1
  cases x with
  | str z =>
    cases (show v = .str _ from r)
    simp only [gSl] at h3
    by_cases hz : z.length ≤ lim
    · rw [if_pos hz] at h3
      refine .inr (.inr ⟨⟨z.toArray⟩, rfl, ?_, ?_⟩)
      · show z.toArray.size ≤ sizeLine
        rw [List.size_toArray]
        exact lim_le hz
      · have e : cutS ⟨z.toArray⟩ l u = ⟨(cut z l u).toArray⟩ := by
          unfold cutS cut
          have hz : (⟨z.toArray⟩ : Str).length = z.length := List.size_toArray
          rw [hz, List.toList_toArray]
        rw [e]
        exact fin_here h3 s3 rfl
    · rw [if_neg hz] at h3
      exact h3.elim
  | tup xs =>
    obtain ⟨p, vs, rfl, hp, k⟩ := r
    have c := k.cut l u
    refine .inr (.inl ⟨p, vs, rfl, hp, fun hw => ?_, fun _ q hq => ?_⟩)
    · refine fin_here h3 s3 ⟨p, vs, rfl, hp, ?_⟩
      have e : cut xs l u = xs := by
        unfold cut
        rw [← k.length, hw.1, hw.2, Nat.sub_zero, List.drop_zero, k.length, List.take_length]
      rw [e]
      exact k
    · exact fin_ok h3 (Le.new hq) (s3.new hq) ⟨q, _, rfl, .inl (.inl upd_same), VRs.mono (Le.new hq) _ _ c⟩
  | loc n =>
    obtain ⟨p, hi, rfl⟩ := r
    simp only [gSl] at h3
    cases eo : S3[n]? with
    | none => simp only [eo] at h3; exact h3.elim
    | some o =>
      have q := s3.is eo hi
      cases o with
      | lst xs =>
        simp only [eo] at h3
        obtain ⟨vs, hv, k⟩ := q
        exact .inl ⟨p, vs, rfl, SqL.of hv, fun q hq => newL_fin s3 (k.cut l u) hq h3⟩
      | _ => first | exact h3.elim | (simp only [eo] at h3; first | exact h3.elim | cases h3) | (dsimp only at h3; exact h3.elim) | cases h3
  | kl xs =>
    obtain ⟨p, vs, rfl, hp, k⟩ := r
    simp only [gSl] at h3
    exact .inl ⟨p, vs, rfl, hp.sq, fun q hq => newL_fin s3 (k.cut l u) hq h3⟩
  | _ => exact h3.elim
/-- xs[::-1] of a list -/
def gRev : Val → M Val
  | .loc n, S => match S[n]? with
    | some (.lst xs) => .ok (.loc S.length) (S ++ [.lst xs.reverse])
    | _ => .bad
  | _, _ => .bad
theorem pem_rev {k : Nat} {p1 p2 p3 : Pos} (ha : PEm X E a ma) : PEm X E (.Subscript a (.Slice none none (some (.UnaryOp .USub (.Constant (.int 1) k p1) p2)) p3) pos) (mUn gRev ma) := by
  obtain ⟨ta, pa, qa⟩ := ha.ex
  refine ⟨_, pe_revL pa, fun io σ H env S Q er sr h => ?_⟩
  refine qa io σ H env S _ er sr (fin_bind h fun x S1 io1 H1 v _ l1 s1 r1 h1 => ?_)
  cases x with
  | loc n =>
    obtain ⟨p, hi, rfl⟩ := r1
    simp only [gRev] at h1
    cases eo : S1[n]? with
    | none => simp only [eo] at h1; exact h1.elim
    | some o =>
      have q := s1.is eo hi
      cases o with
      | lst xs =>
        simp only [eo] at h1
        obtain ⟨vs, hv, k⟩ := q
        exact ⟨p, vs, rfl, SqL.of hv, fun q hq => newL_fin s1 k.rev hq h1⟩
      | _ => first | exact h1.elim | (simp only [eo] at h1; first | exact h1.elim | cases h1) | (dsimp only at h1; exact h1.elim) | cases h1
  | _ => exact h1.elim

/-! ### lists that are read -/
/-- the list that a thing is -/
structure LView {α : Type} (K : PySem.W.Frag) (R : Hp → List Addr → Hp → α → V → Prop) (L : α → Sto → Option (List Val)) : Prop where
  mono : ∀ {B H H' : Hp} {io io' : List Addr} {x : α} {v : V}, Le K io H io' H' → R B io H x v → R B io' H' x v
  at_ : ∀ {B H : Hp} {io : List Addr} {S : Sto} {x : α} {v : V} {xs : List Val}, SR K io H S → R B io H x v → L x S = some xs → ∃ a vs, v = .ref a ∧ H a = some (.lst vs) ∧ VRs K io H xs vs
def asL (xs : List Val) (_ : Sto) : Option (List Val) := some xs
def asE (x : Val) (S : Sto) : Option (List Val) := match x with
  | .loc n => (match S[n]? with | some (.lst xs) => some xs | _ => none)
  | _ => none
theorem lvL {K : PySem.W.Frag} : LView K (RL K) asL := ⟨RL.mono, fun s r e => by
  obtain ⟨a, vs, rfl, hv, _, _, k⟩ := r
  cases e
  exact ⟨a, vs, rfl, hv, k⟩⟩
theorem lvE {K : PySem.W.Frag} : LView K (fun _ => VR K) asE := ⟨fun l r => VR.mono l _ _ r, fun {B H io S x v xs} s r e => by
  cases x with
  | loc n =>
    obtain ⟨p, hi, rfl⟩ := r
    simp only [asE] at e
    cases eo : S[n]? with
    | none => simp only [eo] at e; cases e
    | some o =>
      have q := s.is eo hi
      cases o with
      | lst ys =>
        simp only [eo] at e
        cases e
        obtain ⟨vs, hv, k⟩ := q
        exact ⟨p, vs, rfl, hv, k⟩
      | _ => first | exact e.elim | (simp only [eo] at e; first | exact e.elim | cases e) | (dsimp only at e; exact e.elim) | cases e
  | _ => cases e⟩
def mCat {α β : Type} (L : α → Sto → Option (List Val)) (L' : β → Sto → Option (List Val)) (a : Ev → M α) (b : Ev → M β) : Ev → M (List Val) := fun env S => (a env S).bind fun x S1 => (b env S1).bind fun y S2 =>
  match L x S2, L' y S2 with
  | some xs, some ys => if xs.length + ys.length ≤ lim then .ok (xs ++ ys) S2 else .bad
  | _, _ => .bad
theorem plm_cat {α β : Type} {R : Hp → List Addr → Hp → α → V → Prop} {R' : Hp → List Addr → Hp → β → V → Prop} {L : α → Sto → Option (List Val)} {L' : β → Sto → Option (List Val)} {ma : Ev → M α} {mb : Ev → M β}
    (w : LView X.K R L) (w' : LView X.K R' L') (ha : PXm X E R a ma) (hb : PXm X E R' b mb) : PLm X E (.BinOp a .Add b pos) (mCat L L' ma mb) := by
  obtain ⟨ta, pa, qa⟩ := ha.ex
  obtain ⟨tb, pb, qb⟩ := hb.ex
  refine ⟨_, pe_op op_cat pa pb, fun io σ H env S Q er sr h => ?_⟩
  refine qa io σ H env S _ er sr (fin_bind h fun x S1 io1 H1 v _ l1 s1 r1 h1 => ?_)
  refine qb io1 σ H1 env S1 _ (er.mono l1) s1 (fin_bind h1 fun y S2 io2 H2 u _ l2 s2 r2 h2 => ?_)
  cases e1 : L x S2 with
  | none => simp only [e1] at h2; exact h2.elim
  | some xs =>
    cases e2 : L' y S2 with
    | none => simp only [e1, e2] at h2; exact h2.elim
    | some ys =>
      simp only [e1, e2] at h2
      obtain ⟨p, vs, rfl, hv, k⟩ := w.at_ s2 (w.mono l2 r1) e1
      obtain ⟨q, ws, rfl, hw, k'⟩ := w'.at_ s2 r2 e2
      by_cases hz : xs.length + ys.length ≤ lim
      · rw [if_pos hz] at h2
        refine ⟨p, q, vs, ws, rfl, rfl, hv, hw, by rw [k.length, k'.length]; exact lim_le hz, fun t ht => ?_⟩
        obtain ⟨f1, f2⟩ := fresh (l1.trans l2) s2 ht
        exact fin_ok h2 (Le.new ht) (s2.new ht) ⟨t, _, rfl, upd_same, f1, f2, VRs.mono (Le.new ht) _ _ (k.app k')⟩
      · rw [if_neg hz] at h2
        exact h2.elim
end
end Mx

set_option linter.all false
set_option maxRecDepth 100000
set_option maxHeartbeats 4000000
namespace Mx
open PySem PySem.Spec PyProof.Rows L2

/-! ### calls of built-ins -/
section
variable {X : Cx} {E : XK} {a b e o : Expr} {es : List Expr} {ma mb : Ev → M Val} {pos p : Pos} {x : Str} {id T : String}
/-- one argument that is a value -/
def UnM (X : Cx) (E : XK) (f : Value) (g : Val → M Val) : Prop :=
  ∃ r, CallR X f r ∧ ∀ io H S x v Q, SR X.K io H S → VR X.K io H x v → FinG X.K (VR X.K) E io H Q (g x S) → r [v] H Q
theorem pem_b1 {g : Val → M Val} (ho : UnM X E (.builtin id) g) (hm : X.mg x = none) (ha : PEm X E a ma) (hv : bootBuiltins x = some (.builtin id) := by decide +kernel) (hg : Gl X x := by rfl) (hn : x ≠ "__name__" := by decide) (hdb : (x == ("__debug__" : Str)) = false := by decide)
    (he : starEach [a] X.env = [(false, eval a X.env)] := by rfl) (hpl : (backTo pos (starEach [] X.env)).any (·.1) = false := by rfl) : PEm X E (.Call (.Name x p) [a] [] pos) (mUn g ma) := by
  obtain ⟨ta, pa, qa⟩ := ha.ex
  obtain ⟨r, pr, qr⟩ := ho
  refine ⟨_, pe_callB pr hg hm hv (pa_cons pa pa_nil he) hn hdb he hpl, fun io σ H env S Q er sr h => ?_⟩
  exact qa io σ H env S _ er sr (fin_bind h fun x S1 io1 H1 v _ l1 s1 r1 h1 => qr io1 H1 S1 x v Q s1 r1 h1)
theorem pem_t1 {g : Val → M Val} (ho : UnM X E (.type T) g) (hm : X.mg x = none) (ha : PEm X E a ma) (hv : bootBuiltins x = some (.type T) := by decide +kernel) (hg : Gl X x := by rfl) (hn : x ≠ "__name__" := by decide) (hdb : (x == ("__debug__" : Str)) = false := by decide)
    (he : starEach [a] X.env = [(false, eval a X.env)] := by rfl) (hpl : (backTo pos (starEach [] X.env)).any (·.1) = false := by rfl) : PEm X E (.Call (.Name x p) [a] [] pos) (mUn g ma) := by
  obtain ⟨ta, pa, qa⟩ := ha.ex
  obtain ⟨r, pr, qr⟩ := ho
  refine ⟨_, pe_callTy pr hg hm hv (pa_cons pa pa_nil he) hn hdb he hpl, fun io σ H env S Q er sr h => ?_⟩
  exact qa io σ H env S _ er sr (fin_bind h fun x S1 io1 H1 v _ l1 s1 r1 h1 => qr io1 H1 S1 x v Q s1 r1 h1)
/-- one argument that is a list -/
def LiM (X : Cx) (E : XK) (f : Value) (g : List Val → M Val) : Prop :=
  ∃ r, CallR X f r ∧ ∀ io H S xs vs a Q, SR X.K io H S → H a = some (.lst vs) → VRs X.K io H xs vs → FinG X.K (VR X.K) E io H Q (g xs S) → r [.ref a] H Q
def mLi {α : Type} (L : α → Sto → Option (List Val)) (g : List Val → M Val) (m : Ev → M α) : Ev → M Val := fun env S => (m env S).bind fun x S1 => match L x S1 with
  | some xs => g xs S1
  | none => .bad
section
variable {α : Type} {R : Hp → List Addr → Hp → α → V → Prop} {L : α → Sto → Option (List Val)} {ml : Ev → M α}
theorem li_run (w : LView X.K R L) {t : TE} {r : List V → Hp → VK → Prop} {g : List Val → M Val} (qa : ∀ io σ H env S Q, ER X.K io H env σ → SR X.K io H S → FinG X.K (R H) E io H Q (ml env S) → t σ H Q)
    (qr : ∀ io H S xs vs a Q, SR X.K io H S → H a = some (.lst vs) → VRs X.K io H xs vs → FinG X.K (VR X.K) E io H Q (g xs S) → r [.ref a] H Q)
    {io : List Addr} {σ : L2.St} {H : Hp} {env : Ev} {S : Sto} {Q : VK} (er : ER X.K io H env σ) (sr : SR X.K io H S) (h : FinG X.K (VR X.K) E io H Q (mLi L g ml env S)) : tCB r (tCons t tNil) σ H Q := by
  refine qa io σ H env S _ er sr (fin_bind h fun x S1 io1 H1 v _ l1 s1 r1 h1 => ?_)
  cases e1 : L x S1 with
  | none => simp only [e1] at h1; exact h1.elim
  | some xs =>
    simp only [e1] at h1
    obtain ⟨q, vs, rfl, hv, k⟩ := w.at_ s1 r1 e1
    exact qr io1 H1 S1 xs vs q Q s1 hv k h1
theorem pem_bL (w : LView X.K R L) {g : List Val → M Val} (ho : LiM X E (.builtin id) g) (hm : X.mg x = none) (ha : PXm X E R a ml) (hv : bootBuiltins x = some (.builtin id) := by decide +kernel) (hg : Gl X x := by rfl) (hn : x ≠ "__name__" := by decide) (hdb : (x == ("__debug__" : Str)) = false := by decide)
    (he : starEach [a] X.env = [(false, eval a X.env)] := by rfl) (hpl : (backTo pos (starEach [] X.env)).any (·.1) = false := by rfl) : PEm X E (.Call (.Name x p) [a] [] pos) (mLi L g ml) := by
  obtain ⟨ta, pa, qa⟩ := ha.ex
  obtain ⟨r, pr, qr⟩ := ho
  exact ⟨_, pe_callB pr hg hm hv (pa_cons pa pa_nil he) hn hdb he hpl, fun io σ H env S Q er sr h => li_run w qa qr er sr h⟩
theorem pem_tL (w : LView X.K R L) {g : List Val → M Val} (ho : LiM X E (.type T) g) (hm : X.mg x = none) (ha : PXm X E R a ml) (hv : bootBuiltins x = some (.type T) := by decide +kernel) (hg : Gl X x := by rfl) (hn : x ≠ "__name__" := by decide) (hdb : (x == ("__debug__" : Str)) = false := by decide)
    (he : starEach [a] X.env = [(false, eval a X.env)] := by rfl) (hpl : (backTo pos (starEach [] X.env)).any (·.1) = false := by rfl) : PEm X E (.Call (.Name x p) [a] [] pos) (mLi L g ml) := by
  obtain ⟨ta, pa, qa⟩ := ha.ex
  obtain ⟨r, pr, qr⟩ := ho
  exact ⟨_, pe_callTy pr hg hm hv (pa_cons pa pa_nil he) hn hdb he hpl, fun io σ H env S Q er sr h => li_run w qa qr er sr h⟩
end
/-! len, tuple, list, all, any, sum, abs -/
def gLen : Val → M Val
  | .str z, S => if z.length ≤ lim then .ok (.int z.length) S else .bad
  | .tup xs, S => .ok (.int xs.length) S
  | .loc n, S => match S[n]? with
    | some (.lst xs) => .ok (.int xs.length) S
    | _ => .bad
  | .kl xs, S => .ok (.int xs.length) S
  | _, _ => .bad
theorem unm_len : UnM X E (.builtin "len") gLen := by
  refine ⟨_, call_len, fun io H S x v Q s r h => ?_⟩
  cases x with
  | str z =>
    cases (show v = .str _ from r)
    simp only [gLen] at h
    by_cases hz : z.length ≤ lim
    · rw [if_pos hz] at h
      have e : (⟨z.toArray⟩ : Str).length = z.length := List.size_toArray
      exact ⟨_, z.length, rfl, ⟨by rw [e]; exact lim_le hz, e.symm⟩, fin_here h s rfl⟩
    · rw [if_neg hz] at h
      exact h.elim
  | tup xs =>
    obtain ⟨q, vs, rfl, hp, k⟩ := r
    exact ⟨_, xs.length, rfl, .inr ⟨vs, hp, k.length.symm⟩, fin_here h s rfl⟩
  | loc n =>
    obtain ⟨q, hi, rfl⟩ := r
    simp only [gLen] at h
    cases eo : S[n]? with
    | none => simp only [eo] at h; exact h.elim
    | some o =>
      have w := s.is eo hi
      cases o with
      | lst xs =>
        simp only [eo] at h
        obtain ⟨vs, hv, k⟩ := w
        exact ⟨_, xs.length, rfl, .inl ⟨vs, SqL.of hv, k.length.symm⟩, fin_here h s rfl⟩
      | _ => first | exact h.elim | (simp only [eo] at h; first | exact h.elim | cases h) | (dsimp only at h; exact h.elim) | cases h
  | kl xs =>
    obtain ⟨q, vs, rfl, hp, k⟩ := r
    exact ⟨_, xs.length, rfl, .inl ⟨vs, hp.sq, k.length.symm⟩, fin_here h s rfl⟩
  | _ => exact h.elim
def lLen (xs : List Val) : M Val := fun S => .ok (.int xs.length) S
theorem lim_len : LiM X E (.builtin "len") lLen :=
  ⟨_, call_len, fun io H S xs vs a Q s hv k h => ⟨_, xs.length, rfl, .inl ⟨vs, SqL.of hv, k.length.symm⟩, fin_here h s rfl⟩⟩
def gTup : Val → M Val
  | .tup xs, S => .ok (.tup xs) S
  | .loc n, S => match S[n]? with
    | some (.lst xs) => .ok (.tup xs) S
    | _ => .bad
  | .kl xs, S => .ok (.tup xs) S
  | _, _ => .bad
theorem newT_fin {io : List Addr} {H : Hp} {S : Sto} {xs : List Val} {vs : List V} {p : Addr} {Q : VK} (s : SR X.K io H S) (k : VRs X.K io H xs vs) (hp : H p = none) (h : FinG X.K (VR X.K) E io H Q (.ok (.tup xs) S)) : Q (.ref p) (upd H p (.tup vs)) :=
  fin_ok h (Le.new hp) (s.new hp) ⟨p, vs, rfl, .inl (.inl upd_same), VRs.mono (Le.new hp) _ _ k⟩
theorem unm_tup : UnM X E (.type "tuple") gTup := by
  refine ⟨_, call_tuple_of, fun io H S x v Q s r h => ?_⟩
  cases x with
  | tup xs =>
    obtain ⟨q, vs, rfl, hp, k⟩ := r
    exact ⟨q, vs, rfl, .inr ⟨hp, fin_here h s ⟨q, vs, rfl, hp, k⟩⟩⟩
  | loc n =>
    obtain ⟨q, hi, rfl⟩ := r
    simp only [gTup] at h
    cases eo : S[n]? with
    | none => simp only [eo] at h; exact h.elim
    | some o =>
      have w := s.is eo hi
      cases o with
      | lst xs =>
        simp only [eo] at h
        obtain ⟨vs, hv, k⟩ := w
        exact ⟨q, vs, rfl, .inl ⟨SqL.of hv, fun l hl => newT_fin s k hl h⟩⟩
      | _ => first | exact h.elim | (simp only [eo] at h; first | exact h.elim | cases h) | (dsimp only at h; exact h.elim) | cases h
  | kl xs =>
    obtain ⟨q, vs, rfl, hp, k⟩ := r
    exact ⟨q, vs, rfl, .inl ⟨hp.sq, fun l hl => newT_fin s k hl h⟩⟩
  | _ => exact h.elim
def lTup (xs : List Val) : M Val := fun S => .ok (.tup xs) S
theorem lim_tup : LiM X E (.type "tuple") lTup :=
  ⟨_, call_tuple_of, fun io H S xs vs a Q s hv k h => ⟨a, vs, rfl, .inl ⟨SqL.of hv, fun l hl => newT_fin s k hl h⟩⟩⟩
/-- list(x): a list that the store does not hold -/
def gLst : Val → M (List Val)
  | .tup xs, S => .ok xs S
  | .loc n, S => match S[n]? with
    | some (.lst xs) => .ok xs S
    | _ => .bad
  | .kl xs, S => .ok xs S
  | _, _ => .bad
def mUnL (g : Val → M (List Val)) (a : Ev → M Val) : Ev → M (List Val) := fun env S => (a env S).bind fun x S1 => g x S1
theorem newR_fin {B : Hp} {io0 io : List Addr} {H : Hp} {S : Sto} {xs : List Val} {vs : List V} {p : Addr} {Q : VK} (l : Le X.K io0 B io H) (s : SR X.K io H S) (k : VRs X.K io H xs vs) (hp : H p = none) (h : FinG X.K (RL X.K B) E io H Q (.ok xs S)) : Q (.ref p) (upd H p (.lst vs)) := by
  obtain ⟨f1, f2⟩ := fresh l s hp
  exact fin_ok h (Le.new hp) (s.new hp) ⟨p, vs, rfl, upd_same, f1, f2, VRs.mono (Le.new hp) _ _ k⟩
theorem plm_list (hm : X.mg "list" = none) (ha : PEm X E a ma) (hg : Gl X "list" := by rfl)
    (he : starEach [a] X.env = [(false, eval a X.env)] := by rfl) (hpl : (backTo pos (starEach [] X.env)).any (·.1) = false := by rfl) : PLm X E (.Call (.Name "list" p) [a] [] pos) (mUnL gLst ma) := by
  obtain ⟨ta, pa, qa⟩ := ha.ex
  refine ⟨_, pe_callTy call_list_of hg hm (by decide +kernel) (pa_cons pa pa_nil he) (by decide) (by decide) he hpl, fun io σ H env S Q er sr h => ?_⟩
  refine qa io σ H env S _ er sr (fin_bind h fun x S1 io1 H1 v _ l1 s1 r h1 => ?_)
  cases x with
  | tup xs =>
    obtain ⟨q, vs, rfl, hp, k⟩ := r
    exact ⟨q, vs, rfl, .inr hp, fun l hl => newR_fin l1 s1 k hl h1⟩
  | loc n =>
    obtain ⟨q, hi, rfl⟩ := r
    simp only [gLst] at h1
    cases eo : S1[n]? with
    | none => simp only [eo] at h1; exact h1.elim
    | some o =>
      have w := s1.is eo hi
      cases o with
      | lst xs =>
        simp only [eo] at h1
        obtain ⟨vs, hv, k⟩ := w
        exact ⟨q, vs, rfl, .inl (SqL.of hv), fun l hl => newR_fin l1 s1 k hl h1⟩
      | _ => first | exact h1.elim | (simp only [eo] at h1; first | exact h1.elim | cases h1) | (dsimp only at h1; exact h1.elim) | cases h1
  | kl xs =>
    obtain ⟨q, vs, rfl, hp, k⟩ := r
    exact ⟨q, vs, rfl, .inl hp.sq, fun l hl => newR_fin l1 s1 k hl h1⟩
  | _ => exact h1.elim
def asBls : List Val → Option (List Bool)
  | [] => some []
  | .bl b :: r => (asBls r).map (b :: ·)
  | _ :: _ => none
theorem asBls_eq : ∀ {xs : List Val} {bs : List Bool}, asBls xs = some bs → xs = bs.map Val.bl
  | [], bs, h => by cases h; rfl
  | .bl b :: r, bs, h => by
    simp only [asBls] at h
    cases e : asBls r with
    | none => rw [e] at h; cases h
    | some cs => rw [e] at h; cases h; rw [asBls_eq e]; rfl
  | .non :: _, _, h => nomatch h
  | .int _ :: _, _, h => nomatch h
  | .str _ :: _, _, h => nomatch h
  | .tup _ :: _, _, h => nomatch h
  | .kl _ :: _, _, h => nomatch h
  | .loc _ :: _, _, h => nomatch h
  | .ext _ :: _, _, h => nomatch h
theorem asBls_map : ∀ (bs : List Bool), asBls (bs.map Val.bl) = some bs
  | [] => rfl
  | b :: r => by simp only [List.map_cons, asBls, asBls_map r]; rfl
def asInts : List Val → Option (List Int)
  | [] => some []
  | .int b :: r => (asInts r).map (b :: ·)
  | _ :: _ => none
theorem asInts_eq : ∀ {xs : List Val} {bs : List Int}, asInts xs = some bs → xs = bs.map Val.int
  | [], bs, h => by cases h; rfl
  | .int b :: r, bs, h => by
    simp only [asInts] at h
    cases e : asInts r with
    | none => rw [e] at h; cases h
    | some cs => rw [e] at h; cases h; rw [asInts_eq e]; rfl
  | .non :: _, _, h => nomatch h
  | .bl _ :: _, _, h => nomatch h
  | .str _ :: _, _, h => nomatch h
  | .tup _ :: _, _, h => nomatch h
  | .kl _ :: _, _, h => nomatch h
  | .loc _ :: _, _, h => nomatch h
  | .ext _ :: _, _, h => nomatch h
theorem asInts_map : ∀ (bs : List Int), asInts (bs.map Val.int) = some bs
  | [] => rfl
  | b :: r => by simp only [List.map_cons, asInts, asInts_map r]; rfl
def asStrs : List Val → Option (List (List Nat))
  | [] => some []
  | .str b :: r => (asStrs r).map (b :: ·)
  | _ :: _ => none
theorem asStrs_eq : ∀ {xs : List Val} {bs : List (List Nat)}, asStrs xs = some bs → xs = bs.map Val.str
  | [], bs, h => by cases h; rfl
  | .str b :: r, bs, h => by
    simp only [asStrs] at h
    cases e : asStrs r with
    | none => rw [e] at h; cases h
    | some cs => rw [e] at h; cases h; rw [asStrs_eq e]; rfl
  | .non :: _, _, h => nomatch h
  | .bl _ :: _, _, h => nomatch h
  | .int _ :: _, _, h => nomatch h
  | .tup _ :: _, _, h => nomatch h
  | .kl _ :: _, _, h => nomatch h
  | .loc _ :: _, _, h => nomatch h
  | .ext _ :: _, _, h => nomatch h
theorem asStrs_map : ∀ (bs : List (List Nat)), asStrs (bs.map Val.str) = some bs
  | [] => rfl
  | b :: r => by simp only [List.map_cons, asStrs, asStrs_map r]; rfl
def lAll (xs : List Val) : M Val := fun S => match asBls xs with | some bs => .ok (.bl (bs.all fun b => b)) S | none => .bad
def lAny (xs : List Val) : M Val := fun S => match asBls xs with | some bs => .ok (.bl (bs.any fun b => b)) S | none => .bad
def lSum (xs : List Val) : M Val := fun S => match asInts xs with | some bs => .ok (.int bs.sum) S | none => .bad
theorem lim_all (hc : X.calm = true) : LiM X E (.builtin "all") lAll := ⟨_, cr_all hc, fun io H S xs vs a Q s hv k h => by
  cases e : asBls xs with
  | none => simp only [lAll, e] at h; exact h.elim
  | some bs =>
    simp only [lAll, e] at h
    have ev : vs = bs.map V.bl := by rw [asBls_eq e] at k; exact k.bls
    subst ev
    exact ⟨a, bs, rfl, SqL.of hv, fin_here h s rfl⟩⟩
theorem lim_any (hc : X.calm = true) : LiM X E (.builtin "any") lAny := ⟨_, cr_any hc, fun io H S xs vs a Q s hv k h => by
  cases e : asBls xs with
  | none => simp only [lAny, e] at h; exact h.elim
  | some bs =>
    simp only [lAny, e] at h
    have ev : vs = bs.map V.bl := by rw [asBls_eq e] at k; exact k.bls
    subst ev
    exact ⟨a, bs, rfl, SqL.of hv, fin_here h s rfl⟩⟩
theorem lim_sum (hc : X.calm = true) : LiM X E (.builtin "sum") lSum := ⟨_, cr_sum hc, fun io H S xs vs a Q s hv k h => by
  cases e : asInts xs with
  | none => simp only [lSum, e] at h; exact h.elim
  | some bs =>
    simp only [lSum, e] at h
    have ev : vs = bs.map V.int := by rw [asInts_eq e] at k; exact k.ints
    subst ev
    exact ⟨a, bs, rfl, SqL.of hv, fin_here h s rfl⟩⟩
def gAbs : Val → M Val
  | .int i, S => .ok (.int (if i < 0 then -i else i)) S
  | _, _ => .bad
theorem unm_abs : UnM X E (.builtin "abs") gAbs := ⟨_, call_abs, fun io H S x v Q s r h => by
  cases x with
  | int i => cases (show v = .int i from r); exact ⟨i, rfl, fin_here h s rfl⟩
  | _ => exact h.elim⟩
def gInt : Val → M Val
  | .int i, S => .ok (.int i) S
  | .bl b, S => .ok (.int (if b then 1 else 0)) S
  | _, _ => .bad
theorem unm_int : UnM X E (.type "int") gInt := ⟨_, call_int1, fun io H S x v Q s r h => by
  cases x with
  | int i => cases (show v = .int i from r); exact .inl ⟨i, rfl, fin_here h s rfl⟩
  | bl b => cases (show v = .bl b from r); exact .inr ⟨b, rfl, fin_here h s rfl⟩
  | _ => exact h.elim⟩

/-! ### isinstance(x, T), T one of the built-in types -/
def tyOf (x : Val) (S : Sto) : Option String := match x with
  | .non => some "NoneType"
  | .bl _ => some "bool"
  | .int _ => some "int"
  | .str _ => some "str"
  | .tup _ => some "tuple"
  | .kl _ => some "list"
  | .loc n => (match S[n]? with | some (.lst _) => some "list" | some (.dic _) => some "dict" | _ => none)
  | .ext _ => none
def isT (a T : String) : Bool := a == T || (a == "bool" && T == "int")
def mIsi (T : String) (a : Ev → M Val) : Ev → M Val := fun env S => (a env S).bind fun x S1 => match tyOf x S1 with
  | some t => .ok (.bl (isT t T)) S1
  | none => .bad
theorem kit_all : (["NoneType", "bool", "int", "str", "tuple", "list", "dict"].all fun a => ["int", "bool", "str", "tuple", "list", "dict"].all fun T => decide (kitB a T = some (isT a T))) = true := by decide +kernel
theorem kit_at {a T : String} (h1 : a ∈ ["NoneType", "bool", "int", "str", "tuple", "list", "dict"]) (h2 : T ∈ ["int", "bool", "str", "tuple", "list", "dict"]) : kitB a T = some (isT a T) :=
  of_decide_eq_true (List.all_eq_true.mp (List.all_eq_true.mp kit_all a h1) T h2)
theorem tyOf_ok {K : PySem.W.Frag} {io : List Addr} {H : Hp} {S : Sto} {x : Val} {v : V} {t : String} (s : SR K io H S) (r : VR K io H x v) (h : tyOf x S = some t) : TyX K H v (.type t) ∧ t ∈ ["NoneType", "bool", "int", "str", "tuple", "list", "dict"] := by
  cases x with
  | non => cases (show v = .non from r); cases h; exact ⟨.base .non, by decide⟩
  | bl b => cases (show v = .bl b from r); cases h; exact ⟨.base (.bl b), by decide⟩
  | int b => cases (show v = .int b from r); cases h; exact ⟨.base (.int b), by decide⟩
  | str b => cases (show v = .str _ from r); cases h; exact ⟨.base (.str _), by decide⟩
  | tup xs =>
    obtain ⟨q, vs, rfl, hp, k⟩ := r
    cases h
    rcases hp with (hp | ⟨o, hp⟩) | ⟨o, its, n, h1, h2, _⟩
    · exact ⟨.base (.tup hp), by decide⟩
    · exact ⟨.fTuple hp, by decide⟩
    · exact ⟨.kTuple h1 h2, by decide⟩
  | kl xs =>
    obtain ⟨q, vs, rfl, hp, k⟩ := r
    cases h
    rcases hp with ⟨o, hp⟩ | ⟨o, its, n, h1, h2, _⟩
    · exact ⟨.base (.frz hp), by decide⟩
    · exact ⟨.kList h1 h2, by decide⟩
  | loc n =>
    obtain ⟨q, hi, rfl⟩ := r
    simp only [tyOf] at h
    cases eo : S[n]? with
    | none => simp only [eo] at h; cases h
    | some o =>
      have w := s.is eo hi
      cases o with
      | lst xs => simp only [eo] at h; cases h; obtain ⟨vs, hv, k⟩ := w; exact ⟨.base (.lst hv), by decide⟩
      | dic kvs => simp only [eo] at h; cases h; obtain ⟨vs, hv, k⟩ := w; exact ⟨.base (.dK hv), by decide⟩
      | ins C fs => first | exact h.elim | (simp only [eo] at h; first | exact h.elim | cases h) | (dsimp only at h; exact h.elim) | cases h
  | ext _ => cases h
theorem pem_isi {y : Str} {q : Pos} (hT : T ∈ ["int", "bool", "str", "tuple", "list", "dict"]) (hm : X.mg "isinstance" = none) (hmT : X.mg y = none) (ha : PEm X E a ma) (hvT : bootBuiltins y = some (.type T) := by decide +kernel)
    (hg : Gl X "isinstance" := by rfl) (hgT : Gl X y := by rfl) (hn : y ≠ "__name__" := by decide) (hdb : (y == ("__debug__" : Str)) = false := by decide)
    (he : starEach [a, .Name y q] X.env = (false, eval a X.env) :: starEach [.Name y q] X.env := by rfl) (he2 : starEach [.Name y q] X.env = [(false, eval (.Name y q) X.env)] := by rfl) (hpl : (backTo pos (starEach [.Name y q] X.env)).any (·.1) = false := by rfl) :
    PEm X E (.Call (.Name "isinstance" p) [a, .Name y q] [] pos) (mIsi T ma) := by
  obtain ⟨ta, pa, qa⟩ := ha.ex
  refine ⟨_, pe_callB call_isi hg hm (by decide +kernel) (pa_cons pa (pa_cons (pe_bltn (v := .ty T) hgT hmT hvT rfl hn hdb) pa_nil he2) he) (by decide) (by decide) he hpl, fun io σ H env S Q er sr h => ?_⟩
  refine qa io σ H env S _ er sr (fin_bind h fun x S1 io1 H1 v _ l1 s1 r h1 => ?_)
  cases e : tyOf x S1 with
  | none => simp only [e] at h1; exact h1.elim
  | some t =>
    simp only [e] at h1
    obtain ⟨k1, k2⟩ := tyOf_ok s1 r e
    exact ⟨v, .ty T, .type t, .type T, isT t T, rfl, .ty T, k1, kit_ty (kit_at k2 hT), fin_here h1 s1 rfl⟩

/-! ### sep.join(a list) -/
def lJoin (sep : List Nat) (xs : List Val) : M Val := fun S => match asStrs xs with
  | some ys => if (ys.map List.length).sum + ys.length * sep.length ≤ lim then .ok (.str (TL.joinL sep ys)) S else .bad
  | none => .bad
def mJoin {α : Type} (L : α → Sto → Option (List Val)) (o : Ev → M Val) (m : Ev → M α) : Ev → M Val := fun env S => (o env S).bind fun z S1 => match z with
  | .str sep => (m env S1).bind fun x S2 => (match L x S2 with
    | some xs => lJoin sep xs S2
    | none => .bad)
  | _ => .bad
theorem str_of_tl {x : Str} {z : List Nat} (h : x.cps.toList = z) : x = ⟨z.toArray⟩ := by
  subst h
  cases x
  rfl
theorem pem_join {α : Type} {R : Hp → List Addr → Hp → α → V → Prop} {L : α → Sto → Option (List Val)} {ml : Ev → M α} {apos : Pos} (w : LView X.K R L) (ho : PEm X E o ma) (ha : PXm X E R a ml) (hs : starEach [a] X.env = [(false, eval a X.env)] := by rfl)
    (hbase : attributeBase o "join" X.env (eval o X.env) = eval o X.env := by rfl) (hline : (apos.endLine == pos.line) = true := by rfl) : PEm X E (.Call (.Attribute o "join" apos) [a] [] pos) (mJoin L ma ml) := by
  obtain ⟨to, po, qo⟩ := ho.ex
  obtain ⟨ta, pa, qa⟩ := ha.ex
  refine ⟨_, pe_join po pa hs hbase hline, fun io σ H env S Q er sr h => ?_⟩
  refine qo io σ H env S _ er sr (fin_bind h fun z S1 io1 H1 v _ l1 s1 r1 h1 => ?_)
  cases z with
  | str sep =>
    cases (show v = .str _ from r1)
    refine ⟨⟨_, rfl⟩, ?_⟩
    refine qa io1 σ H1 env S1 _ (er.mono l1) s1 (fin_bind h1 fun x S2 io2 H2 v _ l2 s2 r2 h2 => ?_)
    cases e1 : L x S2 with
    | none => simp only [e1] at h2; exact h2.elim
    | some xs =>
      simp only [e1] at h2
      obtain ⟨q, vs, rfl, hv, k⟩ := w.at_ s2 r2 e1
      unfold lJoin at h2
      cases e2 : asStrs xs with
      | none => simp only [e2] at h2; exact h2.elim
      | some ys =>
        simp only [e2] at h2
        by_cases hz : (ys.map List.length).sum + ys.length * sep.length ≤ lim
        · rw [if_pos hz] at h2
          have ev : vs = (ys.map fun y => (⟨y.toArray⟩ : Str)).map V.str := by
            rw [asStrs_eq e2] at k
            rw [List.map_map]
            exact k.strs
          subst ev
          refine ⟨_, q, ys.map fun y => (⟨y.toArray⟩ : Str), rfl, rfl, .inl (SqL.of hv), ?_, ?_⟩
          · rw [List.map_map, List.length_map]
            have e3 : (ys.map (Str.length ∘ fun y => (⟨y.toArray⟩ : Str))) = ys.map List.length := List.map_congr_left fun y _ => List.size_toArray
            have e4 : (⟨sep.toArray⟩ : Str).length = sep.length := List.size_toArray
            rw [e3, e4]
            exact Nat.le_trans hz (by decide)
          · have e5 : Txt.join ⟨sep.toArray⟩ (ys.map fun y => (⟨y.toArray⟩ : Str)) = ⟨(TL.joinL sep ys).toArray⟩ := by
              refine str_of_tl ?_
              rw [TL.join_eq]
              have e6 := TL.tl_join ⟨sep.toArray⟩ (ys.map fun y => (⟨y.toArray⟩ : Str))
              have e7 : (ys.map fun y => (⟨y.toArray⟩ : Str)).map TL.tl = ys := by
                rw [List.map_map]
                have : (TL.tl ∘ fun y => (⟨y.toArray⟩ : Str)) = fun y => y := by
                  funext y
                  show (y.toArray).toList = y
                  rw [List.toList_toArray]
                rw [this, List.map_id']
              rw [e7] at e6
              have e8 : TL.tl (⟨sep.toArray⟩ : Str) = sep := List.toList_toArray
              rw [e8] at e6
              exact e6
            rw [e5]
            exact fin_here h2 s2 rfl
        · rw [if_neg hz] at h2
          exact h2.elim
  | _ => exact h1.elim
end
end Mx

set_option linter.all false
set_option maxRecDepth 100000
set_option maxHeartbeats 4000000
namespace Mx
open PySem PySem.Spec PyProof.Rows L2

/-! ### what is walked -/
inductive Src where
  | vals (xs : List Val) | live (n l : Nat) | pair (n m l : Nat)
def zipV (xs ys : List Val) : List Val := List.zipWith (fun x y => .tup [x, y]) xs ys
def Src.size : Src → Nat
  | .vals xs => xs.length
  | .live _ l => l
  | .pair _ _ l => l
def Src.item : Src → Sto → Nat → Option Val
  | .vals xs, _, i => xs[i]?
  | .live n l, S, i => match S[n]? with
    | some (.lst xs) => if xs.length = l then xs[i]? else none
    | _ => none
  | .pair n m l, S, i => match S[n]?, S[m]? with
    | some (.lst xs), some (.lst ys) => if min xs.length ys.length = l then (zipV xs ys)[i]? else none
    | _, _ => none
def Src.fin : Src → Sto → Bool
  | .vals _, _ => true
  | .live n l, S => match S[n]? with
    | some (.lst xs) => xs.length == l
    | _ => false
  | .pair n m l, S => match S[n]?, S[m]? with
    | some (.lst xs), some (.lst ys) => min xs.length ys.length == l
    | _, _ => false
/-- as Le, but what the store does not hold may change where it was there already at B -/
structure LeW (K : PySem.W.Frag) (B : Hp) (io : List Addr) (H : Hp) (io' : List Addr) (H' : Hp) : Prop where
  ia : ∀ (n : Nat) (a : Addr), io[n]? = some a → io'[n]? = some a
  tu : ∀ (a : Addr) (xs : List V), SqT K H a xs → SqT K H' a xs
  fz : ∀ (a : Addr) (xs : List V), SqF K H a xs → SqF K H' a xs
  fr : ∀ (a : Addr) (o : HO), H a = some o → a ∉ io → B a = none → H' a = some o ∧ a ∉ io'
theorem Le.w {K : PySem.W.Frag} {B : Hp} {io io' : List Addr} {H H' : Hp} (l : Le K io H io' H') : LeW K B io H io' H' := ⟨l.ia, l.tu, l.fz, fun a o h k _ => l.fr a o h k⟩
mutual
theorem VR.monoW {K : PySem.W.Frag} {B : Hp} {io io' : List Addr} {H H' : Hp} (l : LeW K B io H io' H') : ∀ (x : Val) (v : V), VR K io H x v → VR K io' H' x v
  | .non, _, h => h
  | .bl _, _, h => h
  | .int _, _, h => h
  | .str _, _, h => h
  | .ext _, _, h => h
  | .loc n, _, ⟨a, h, e⟩ => ⟨a, l.ia n a h, e⟩
  | .tup xs, _, ⟨a, vs, e, h, k⟩ => ⟨a, vs, e, l.tu a vs h, VRs.monoW l xs vs k⟩
  | .kl xs, _, ⟨a, vs, e, h, k⟩ => ⟨a, vs, e, l.fz a vs h, VRs.monoW l xs vs k⟩
theorem VRs.monoW {K : PySem.W.Frag} {B : Hp} {io io' : List Addr} {H H' : Hp} (l : LeW K B io H io' H') : ∀ (xs : List Val) (vs : List V), VRs K io H xs vs → VRs K io' H' xs vs
  | [], _, h => h
  | x :: xs, _, ⟨v, ws, e, h, k⟩ => ⟨v, ws, e, VR.monoW l x v h, VRs.monoW l xs ws k⟩
end
structure JR (K : PySem.W.Frag) (B : Hp) (io : List Addr) (H : Hp) (src : Src) (J : It) : Prop where
  go : ∀ io' H' S i x, LeW K B io H io' H' → SR K io' H' S → src.item S i = some x → J.go i H' ∧ ∀ y H'', J.yld i H' y H'' → Le K io' H' io' H'' ∧ SR K io' H'' S ∧ VR K io' H'' x y
  stop : ∀ io' H' S, LeW K B io H io' H' → SR K io' H' S → src.fin S = true → J.stop src.size H'
structure PIm (X : Cx) (E : XK) (tg iter : Expr) (m : Ev → M Src) : Prop where
  ex : ∃ wi, PI X tg iter wi ∧ ∀ io σ H env S R, ER X.K io H env σ → SR X.K io H S → FinG X.K (JR X.K H) E io H R (m env S) → wi σ H R
theorem PI.or {X : Cx} {tg iter : Expr} {w1 w2 : TI} (h1 : PI X tg iter w1) (h2 : PI X tg iter w2) : PI X tg iter (fun σ H R => w1 σ H R ∨ w2 σ H R) :=
  ⟨fun pins s σ H R I h => h.elim (h1.run pins s σ H R I) (h2.run pins s σ H R I)⟩
def srcOf : Val → M Src
  | .str z, S => .ok (.vals (z.map fun c => .str [c])) S
  | .tup xs, S => .ok (.vals xs) S
  | .loc n, S => match S[n]? with
    | some (.lst xs) => .ok (.live n xs.length) S
    | _ => .bad
  | .kl xs, S => .ok (.vals xs) S
  | _, _ => .bad
def mSrc (a : Ev → M Val) : Ev → M Src := fun env S => (a env S).bind fun x S1 => srcOf x S1
def mSrcL (a : Ev → M (List Val)) : Ev → M Src := fun env S => (a env S).bind fun xs S1 => .ok (.vals xs) S1
section
variable {X : Cx} {E : XK} {a b c e tg : Expr} {es : List Expr} {ma mb mc : Ev → M Val} {pos p : Pos}
theorem jr_list {io : List Addr} {B H : Hp} {q : Addr} {xs : List Val} {vs : List V} {src : Src} (hs : src.size = xs.length)
    (h : ∀ io' H' S i x, LeW X.K B io H io' H' → SR X.K io' H' S → src.item S i = some x → ∃ vs, SqL X.K H' q vs ∧ ∃ v, vs[i]? = some v ∧ VR X.K io' H' x v)
    (h2 : ∀ io' H' S, LeW X.K B io H io' H' → SR X.K io' H' S → src.fin S = true → ∃ vs, SqL X.K H' q vs ∧ vs.length = src.size) : JR X.K B io H src (Itl X.K q) := by
  refine ⟨fun io' H' S i x l s e => ?_, fun io' H' S l s e => ?_⟩
  · obtain ⟨vs, hq, v, hv, r⟩ := h io' H' S i x l s e
    refine ⟨⟨vs, v, hq, hv⟩, fun y H'' hy => ?_⟩
    obtain ⟨e1, hy⟩ := hy
    subst e1
    have := hy vs hq
    rw [hv] at this
    cases this
    exact ⟨Le.refl, s, r⟩
  · obtain ⟨vs, hq, hl⟩ := h2 io' H' S l s e
    exact ⟨vs, hq, by rw [hl]; exact Nat.le_refl _⟩
theorem pim_val (ha : PEm X E a ma) : PIm X E tg a (mSrc ma) := by
  obtain ⟨ta, pa, qa⟩ := ha.ex
  refine ⟨_, PI.or (pi_list pa) (PI.or (pi_tup pa) (pi_str pa)), fun io σ H env S R er sr h => ?_⟩
  -- the value decides which of the three it is
  have kinds : (ma env S).bind (fun x S1 => srcOf x S1) = mSrc ma env S := rfl
  cases eo : ma env S with
  | bad => simp only [mSrc, eo, Out.bind] at h; exact h.elim
  | err x S1 => 
    simp only [mSrc, eo, Out.bind] at h
    refine .inl (qa io σ H env S _ er sr ?_)
    rw [eo]
    exact h
  | ok x S1 =>
    simp only [mSrc, eo, Out.bind] at h
    cases x with
    | str z =>
      refine .inr (.inr (qa io σ H env S _ er sr ?_))
      rw [eo]
      intro io1 H1 v l1 s1 r1
      cases (show v = .str _ from r1)
      refine ⟨_, rfl, h io1 H1 _ l1 s1 ⟨fun io' H' S i x l s e => ?_, fun io' H' S l s e => ?_⟩⟩
      · simp only [Src.item, List.getElem?_map] at e
        cases ez : z[i]? with
        | none => rw [ez] at e; cases e
        | some c =>
          rw [ez] at e
          cases e
          have hi := (List.getElem?_eq_some_iff.mp ez).1
          refine ⟨by show i < z.toArray.size; rw [List.size_toArray]; exact hi, fun y H'' hy => ?_⟩
          obtain ⟨e1, c', hc, e2⟩ := hy
          subst e1 e2
          have hc' : z[i]? = some c' := by rw [← List.getElem?_toArray]; exact hc
          rw [ez] at hc'
          cases hc'
          exact ⟨Le.refl, s, rfl⟩
      · show z.toArray.size ≤ (z.map _).length
        rw [List.size_toArray, List.length_map]
        exact Nat.le_refl _
    | tup xs =>
      refine .inr (.inl (qa io σ H env S _ er sr ?_))
      rw [eo]
      intro io1 H1 v l1 s1 r1
      obtain ⟨q, vs, rfl, hp, k⟩ := r1
      refine ⟨q, rfl, ⟨vs, hp⟩, h io1 H1 _ l1 s1 ⟨fun io' H' S i x l s e => ?_, fun io' H' S l s e => ?_⟩⟩
      · obtain ⟨v, hv, r⟩ := (VRs.monoW l _ _ k).get (i := i) (x := x) e
        refine ⟨⟨vs, v, l.tu _ _ hp, hv⟩, fun y H'' hy => ?_⟩
        obtain ⟨e1, hy⟩ := hy
        subst e1
        have := hy vs (l.tu _ _ hp)
        rw [hv] at this
        cases this
        exact ⟨Le.refl, s, r⟩
      · exact ⟨vs, l.tu _ _ hp, by show vs.length ≤ xs.length; rw [k.length]; exact Nat.le_refl _⟩
    | loc n =>
      refine .inl (qa io σ H env S _ er sr ?_)
      rw [eo]
      intro io1 H1 v l1 s1 r1
      obtain ⟨q, hi, rfl⟩ := r1
      have jr : ∀ (L : Nat), JR X.K H io1 H1 (.live n L) (Itl X.K q) := fun L => by
        refine ⟨fun io' H' S i x l s e => ?_, fun io' H' S l s e => ?_⟩
        · simp only [Src.item] at e
          cases es : S[n]? with
          | none => rw [es] at e; cases e
          | some o =>
            have w := s.is es (l.ia n q hi)
            rw [es] at e
            cases o with
            | lst ys =>
              obtain ⟨vs, hv, k⟩ := w
              by_cases hL : ys.length = L
              · simp only [if_pos hL] at e
                obtain ⟨v, hv2, r⟩ := k.get e
                refine ⟨⟨vs, v, SqL.of hv, hv2⟩, fun y H'' hy => ?_⟩
                obtain ⟨e1, hy⟩ := hy
                subst e1
                have := hy vs (SqL.of hv)
                rw [hv2] at this
                cases this
                exact ⟨Le.refl, s, r⟩
              · simp only [if_neg hL] at e
                cases e
            | _ => first | exact e.elim | (simp only [es] at e; first | exact e.elim | cases e) | (dsimp only at e; exact e.elim) | cases e
        · simp only [Src.fin] at e
          cases es : S[n]? with
          | none => rw [es] at e; cases e
          | some o =>
            have w := s.is es (l.ia n q hi)
            rw [es] at e
            cases o with
            | lst ys =>
              obtain ⟨vs, hv, k⟩ := w
              exact ⟨vs, SqL.of hv, by rw [k.length, eq_of_beq e]; exact Nat.le_refl _⟩
            | _ => first | exact e.elim | (simp only [es] at e; first | exact e.elim | cases e) | (dsimp only at e; exact e.elim) | cases e
      simp only [srcOf] at h
      cases es : S1[n]? with
      | none => simp only [es] at h; exact h.elim
      | some o =>
        have w := s1.is es hi
        simp only [es] at h
        cases o with
        | lst ys =>
          obtain ⟨vs, hv, k⟩ := w
          exact ⟨q, rfl, ⟨vs, SqL.of hv⟩, h io1 H1 _ l1 s1 (jr _)⟩
        | _ => first | exact h.elim | (simp only [es] at h; first | exact h.elim | cases h) | (dsimp only at h; exact h.elim) | cases h
    | kl xs =>
      refine .inl (qa io σ H env S _ er sr ?_)
      rw [eo]
      intro io1 H1 v l1 s1 r1
      obtain ⟨q, vs, rfl, hp, k⟩ := r1
      refine ⟨q, rfl, ⟨vs, hp.sq⟩, h io1 H1 _ l1 s1 ⟨fun io' H' S i x l s e => ?_, fun io' H' S l s e => ?_⟩⟩
      · obtain ⟨v, hv, r⟩ := (VRs.monoW l _ _ k).get (i := i) (x := x) e
        refine ⟨⟨vs, v, (l.fz _ _ hp).sq, hv⟩, fun y H'' hy => ?_⟩
        obtain ⟨e1, hy⟩ := hy
        subst e1
        have := hy vs (l.fz _ _ hp).sq
        rw [hv] at this
        cases this
        exact ⟨Le.refl, s, r⟩
      · exact ⟨vs, (l.fz _ _ hp).sq, by show vs.length ≤ xs.length; rw [k.length]; exact Nat.le_refl _⟩
    | _ => exact h.elim
theorem pim_l {ml : Ev → M (List Val)} (ha : PLm X E a ml) : PIm X E tg a (mSrcL ml) := by
  obtain ⟨ta, pa, qa⟩ := ha.ex
  refine ⟨_, pi_list pa, fun io σ H env S R er sr h => ?_⟩
  refine qa io σ H env S _ er sr (fin_bind h fun xs S1 io1 H1 v _ l1 s1 r1 h1 => ?_)
  obtain ⟨q, vs, rfl, hv, hb, hi, k⟩ := r1
  refine ⟨q, rfl, ⟨vs, SqL.of hv⟩, h1 io1 H1 _ Le.refl s1 ⟨fun io' H' S i x l s e => ?_, fun io' H' S l s e => ?_⟩⟩
  · obtain ⟨v, hv2, r⟩ := (VRs.monoW l _ _ k).get (i := i) (x := x) e
    have hq : SqL X.K H' q vs := SqL.of (l.fr q _ hv hi hb).1
    refine ⟨⟨vs, v, hq, hv2⟩, fun y H'' hy => ?_⟩
    obtain ⟨e1, hy⟩ := hy
    subst e1
    have := hy vs hq
    rw [hv2] at this
    cases this
    exact ⟨Le.refl, s, r⟩
  · exact ⟨vs, SqL.of (l.fr q _ hv hi hb).1, by show vs.length ≤ xs.length; rw [k.length]; exact Nat.le_refl _⟩
/-- the whole numbers from lo on, n of them -/
def upTo (lo : Int) (n : Nat) : List Val := (List.range n).map fun i => .int (lo + ((i : Nat) : Int))
theorem jr_range {io : List Addr} {B H : Hp} (lo : Int) (n : Nat) : JR X.K B io H (.vals (upTo lo n)) (Itr lo n) := by
  refine ⟨fun io' H' S i x l s e => ?_, fun io' H' S l s e => ?_⟩
  · simp only [Src.item, upTo, List.getElem?_map] at e
    by_cases hi : i < n
    · rw [List.getElem?_range hi] at e
      cases e
      refine ⟨hi, fun y H'' hy => ?_⟩
      obtain ⟨e1, e2⟩ := hy
      subst e1 e2
      exact ⟨Le.refl, s, rfl⟩
    · rw [List.getElem?_eq_none (by rw [List.length_range]; omega)] at e
      cases e
  · show n ≤ (upTo lo n).length
    unfold upTo
    rw [List.length_map, List.length_range]
    exact Nat.le_refl _
def mRng1 (m : Ev → M Val) : Ev → M Src := fun env S => (m env S).bind fun x S1 => match x with
  | .int j => if j.natAbs ≤ lim then .ok (.vals (upTo 0 j.toNat)) S1 else .bad
  | _ => .bad
def mRng2 (m m' : Ev → M Val) : Ev → M Src := fun env S => (m env S).bind fun x S1 => (m' env S1).bind fun y S2 => match x, y with
  | .int i, .int j => if i.natAbs ≤ lim ∧ j.natAbs ≤ lim then .ok (.vals (upTo i (j - i).toNat)) S2 else .bad
  | _, _ => .bad
theorem pim_range1 (hm : X.mg "range" = none) (ha : PEm X E a ma) (hg : Gl X "range" := by rfl) (hs : starEach [a] X.env = [(false, eval a X.env)] := by rfl) : PIm X E tg (.Call (.Name "range" p) [a] [] pos) (mRng1 ma) := by
  obtain ⟨ta, pa, qa⟩ := ha.ex
  refine ⟨_, pi_range1 hg hm (pa_cons pa pa_nil hs) hs, fun io σ H env S R er sr h => ?_⟩
  refine qa io σ H env S _ er sr (fin_bind h fun x S1 io1 H1 v _ l1 s1 r1 h1 => ?_)
  cases x with
  | int j =>
    cases (show v = .int j from r1)
    by_cases hj : j.natAbs ≤ lim
    · simp only [if_pos hj] at h1
      have : lim = 100000 := rfl
      exact ⟨j, rfl, by omega, by omega, h1 io1 H1 _ Le.refl s1 (jr_range 0 j.toNat)⟩
    · simp only [if_neg hj] at h1
      exact h1.elim
  | _ => exact h1.elim
theorem pim_range2 (hm : X.mg "range" = none) (ha : PEm X E a ma) (hb : PEm X E b mb) (hg : Gl X "range" := by rfl) (hs : starEach [a, b] X.env = [(false, eval a X.env), (false, eval b X.env)] := by rfl) (hs2 : starEach [b] X.env = [(false, eval b X.env)] := by rfl) :
    PIm X E tg (.Call (.Name "range" p) [a, b] [] pos) (mRng2 ma mb) := by
  obtain ⟨ta, pa, qa⟩ := ha.ex
  obtain ⟨tb, pb, qb⟩ := hb.ex
  refine ⟨_, pi_range2 hg hm (pa_cons pa (pa_cons pb pa_nil hs2) (by rw [hs, hs2])) hs hs2, fun io σ H env S R er sr h => ?_⟩
  refine qa io σ H env S _ er sr (fin_bind h fun x S1 io1 H1 v _ l1 s1 r1 h1 => ?_)
  refine qb io1 σ H1 env S1 _ (er.mono l1) s1 (fin_bind h1 fun y S2 io2 H2 w _ l2 s2 r2 h2 => ?_)
  cases x with
  | int i =>
    cases y with
    | int j =>
      cases (show v = .int i from r1)
      cases (show w = .int j from r2)
      by_cases hj : i.natAbs ≤ lim ∧ j.natAbs ≤ lim
      · simp only [if_pos hj] at h2
        have : lim = 100000 := rfl
        exact ⟨i, j, rfl, by omega, h2 io2 H2 _ Le.refl s2 (jr_range i (j - i).toNat)⟩
      · simp only [if_neg hj] at h2
        exact h2.elim
    | _ => exact h2.elim
  | _ => exact h2.elim
end
end Mx

set_option linter.all false
set_option maxRecDepth 100000
set_option maxHeartbeats 4000000
namespace Mx
open PySem PySem.Spec PyProof.Rows L2

/-! ### readings of their own: what a denotation asks -/
def tE (K : PySem.W.Frag) (E : XK) (m : Ev → M Val) : TE := fun σ H Q => ∃ io env S, ER K io H env σ ∧ SR K io H S ∧ FinG K (VR K) E io H Q (m env S)
def tT (K : PySem.W.Frag) (E : XK) (m : Ev → M Bool) : TT := fun σ H Q => ∃ io env S, ER K io H env σ ∧ SR K io H S ∧ FinG K RB E io H Q (m env S)
section
variable {X : Cx} {E : XK} {e : Expr}
theorem PEm.pe {m : Ev → M Val} (h : PEm X E e m) : PE X e (tE X.K E m) := by
  obtain ⟨t, p, q⟩ := h.ex
  exact ⟨fun pins s σ H Q I ⟨io, env, S, er, sr, hq⟩ => p.run pins s σ H Q I (q io σ H env S Q er sr hq)⟩
theorem PTm.pt {m : Ev → M Bool} (h : PTm X E e m) : PT X e (tT X.K E m) := by
  obtain ⟨t, p, q⟩ := h.ex
  exact ⟨fun pins s σ H Q I ⟨io, env, S, er, sr, hq⟩ => p.run pins s σ H Q I (q io σ H env S Q er sr hq)⟩
end

/-! ### targets: names, and tuples of such -/
inductive Tg where
  | name (j : Nat) | tup (ts : List Tg)
mutual
def tgT (K : PySem.W.Frag) : Tg → TG
  | .name j => gName j
  | .tup ts => L2.gTup K (tgN ts) (tgTs K ts)
def tgTs (K : PySem.W.Frag) : List Tg → TGs
  | [] => gNil
  | t :: ts => gCons (tgT K t) (tgTs K ts)
def tgN : List Tg → Nat
  | [] => 0
  | _ :: ts => tgN ts + 1
end
mutual
def tgM : Tg → Val → Ev → Option Ev
  | .name j, x, env => some (env.set j (some x))
  | .tup ts, .tup xs, env => tgMs ts xs env
  | .tup _, _, _ => none
def tgMs : List Tg → List Val → Ev → Option Ev
  | [], [], env => some env
  | t :: ts, x :: xs, env => (tgM t x env).bind fun env2 => tgMs ts xs env2
  | [], _ :: _, _ => none
  | _ :: _, [], _ => none
end
mutual
def tgS : Tg → List Nat
  | .name j => [j]
  | .tup ts => tgSs ts
def tgSs : List Tg → List Nat
  | [] => []
  | t :: ts => tgS t ++ tgSs ts
end
theorem wipe_get (σ : L2.St) (i : Nat) : ∀ vs : List Nat, (wipe σ vs)[i]? = if i ∈ vs then σ[i]?.map (fun _ => none) else σ[i]?
  | [] => by rw [if_neg (by simp)]; rfl
  | v :: vs => by
    show ((wipe σ vs).set v none)[i]? = _
    have ih := wipe_get σ i vs
    by_cases h : v = i
    · subst h
      rw [if_pos List.mem_cons_self, List.getElem?_set]
      rw [if_pos rfl]
      have hl : (wipe σ vs).length = σ.length := wipe_length σ vs
      by_cases hv : v < σ.length
      · rw [if_pos (by rw [hl]; exact hv), List.getElem?_eq_getElem hv]; rfl
      · rw [if_neg (by rw [hl]; exact hv), List.getElem?_eq_none (by omega)]; rfl
    · rw [List.getElem?_set_ne h, ih]
      by_cases h2 : i ∈ vs
      · rw [if_pos h2, if_pos (List.mem_cons_of_mem _ h2)]
      · rw [if_neg h2, if_neg (fun z => (List.mem_cons.mp z).elim (fun q => h q.symm) h2)]
theorem wipe_set {σ : L2.St} {j : Nat} {x : Option V} {vs : List Nat} (h : j ∈ vs) : wipe (σ.set j x) vs = wipe σ vs := by
  refine List.ext_getElem? fun i => ?_
  rw [wipe_get, wipe_get]
  by_cases hi : i ∈ vs
  · rw [if_pos hi, if_pos hi]
    by_cases e : j = i
    · subst e
      rw [List.getElem?_set]
      rw [if_pos rfl]
      by_cases hl : j < σ.length
      · rw [if_pos hl, List.getElem?_eq_getElem hl]; rfl
      · rw [if_neg hl, List.getElem?_eq_none (by omega)]
    · rw [List.getElem?_set_ne e]
  · rw [if_neg hi, if_neg hi, List.getElem?_set_ne (fun e => hi (by rw [← e]; exact h))]
theorem wipe_wipe (σ : L2.St) (vs : List Nat) : wipe (wipe σ vs) vs = wipe σ vs := by
  refine List.ext_getElem? fun i => ?_
  rw [wipe_get, wipe_get]
  by_cases hi : i ∈ vs
  · rw [if_pos hi, if_pos hi, Option.map_map]
    rfl
  · rw [if_neg hi, if_neg hi]
section
variable {K : PySem.W.Frag} {io : List Addr} {H : Hp}
theorem er_wip {env : Ev} {σ : L2.St} (er : ER K io H env σ) : ∀ vs : List Nat, ER K io H (wip env vs) (wipe σ vs)
  | [] => er
  | v :: vs => by
    have ih := er_wip er vs
    show ER K io H ((wip env vs).set v none) ((wipe σ vs).set v none)
    refine ⟨by rw [List.length_set, List.length_set]; exact ih.len, fun i x e => ?_⟩
    by_cases h : v = i
    · subst h
      have hl := (List.getElem?_eq_some_iff.mp e).1
      rw [List.length_set] at hl
      rw [List.getElem?_set_self hl] at e
      cases e
    · rw [List.getElem?_set_ne h] at e
      obtain ⟨w, e2, r⟩ := ih.get i x e
      exact ⟨w, by rw [List.getElem?_set_ne h]; exact e2, r⟩
theorem tgN_len : ∀ ts : List Tg, tgN ts = ts.length
  | [] => rfl
  | t :: ts => by rw [tgN, tgN_len ts]; rfl
theorem tgMs_len : ∀ (ts : List Tg) (xs : List Val) (env env' : Ev), tgMs ts xs env = some env' → xs.length = tgN ts
  | [], [], _, _, _ => rfl
  | [], _ :: _, _, _, h => by simp [tgMs] at h
  | _ :: _, [], _, _, h => by simp [tgMs] at h
  | t :: ts, x :: xs, env, env', h => by
    simp only [tgMs] at h
    cases e : tgM t x env with
    | none => rw [e] at h; cases h
    | some env2 =>
      rw [e] at h
      rw [List.length_cons, tgMs_len ts xs env2 env' h]
      rfl
mutual
theorem tg_ok : ∀ (tg : Tg) (x : Val) (v : V) (env env' : Ev) (σ : L2.St) (Q : L2.St → Hp → Prop), ER K io H env σ → VR K io H x v → tgM tg x env = some env' →
    (∀ σ', ER K io H env' σ' → (∀ vs, (∀ j ∈ tgS tg, j ∈ vs) → wipe σ' vs = wipe σ vs) → Q σ' H) → tgT K tg v σ H Q
  | .name j, x, v, env, env', σ, Q, er, r, h, k => by
    cases h
    exact k _ (er.set j r) fun vs hv => wipe_set (hv j (by simp [tgS]))
  | .tup ts, .tup xs, v, env, env', σ, Q, er, r, h, k => by
    obtain ⟨a, vs, rfl, hs, rs⟩ := r
    have h' : tgMs ts xs env = some env' := h
    exact ⟨a, vs, rfl, hs, by rw [rs.length, tgMs_len ts xs env env' h'], tgs_ok ts xs vs env env' σ Q er rs h' k⟩
  | .tup _, .non, _, _, _, _, _, _, _, h, _ => by simp [tgM] at h
  | .tup _, .bl _, _, _, _, _, _, _, _, h, _ => by simp [tgM] at h
  | .tup _, .int _, _, _, _, _, _, _, _, h, _ => by simp [tgM] at h
  | .tup _, .str _, _, _, _, _, _, _, _, h, _ => by simp [tgM] at h
  | .tup _, .loc _, _, _, _, _, _, _, _, h, _ => by simp [tgM] at h
  | .tup _, .kl _, _, _, _, _, _, _, _, h, _ => by simp [tgM] at h
  | .tup _, .ext _, _, _, _, _, _, _, _, h, _ => by simp [tgM] at h
theorem tgs_ok : ∀ (ts : List Tg) (xs : List Val) (vs : List V) (env env' : Ev) (σ : L2.St) (Q : L2.St → Hp → Prop), ER K io H env σ → VRs K io H xs vs → tgMs ts xs env = some env' →
    (∀ σ', ER K io H env' σ' → (∀ vs, (∀ j ∈ tgSs ts, j ∈ vs) → wipe σ' vs = wipe σ vs) → Q σ' H) → tgTs K ts vs σ H Q
  | [], [], vs, env, env', σ, Q, er, r, h, k => by
    cases r
    simp only [tgMs] at h
    cases h
    exact ⟨rfl, k σ er fun _ _ => rfl⟩
  | [], _ :: _, _, _, _, _, _, _, _, h, _ => by simp [tgMs] at h
  | _ :: _, [], _, _, _, _, _, _, _, h, _ => by simp [tgMs] at h
  | t :: ts, x :: xs, _, env, env', σ, Q, er, ⟨v, ws, e, r, rs⟩, h, k => by
    subst e
    simp only [tgMs] at h
    cases e : tgM t x env with
    | none => rw [e] at h; cases h
    | some env2 =>
      rw [e] at h
      refine ⟨v, ws, rfl, tg_ok t x v env env2 σ _ er r e fun σ2 er2 w2 => ?_⟩
      refine tgs_ok ts xs ws env2 env' σ2 Q er2 rs h fun σ3 er3 w3 => k σ3 er3 fun vs hv => ?_
      rw [w3 vs fun j hj => hv j (by simp only [tgSs]; exact List.mem_append_right _ hj), w2 vs fun j hj => hv j (by simp only [tgSs]; exact List.mem_append_left _ hj)]
end
end
/-- the target's rule, by its form -/
structure PGt (X : Cx) (e : Expr) (tg : Tg) : Prop where
  pg : PG X e (tgT X.K tg)
structure PGts (X : Cx) (es : List Expr) (ts : List Tg) : Prop where
  pg : PGs X es (tgTs X.K ts)
section
variable {X : Cx} {E : XK} {e : Expr} {es : List Expr} {pos : Pos}
theorem pgt_name {j : Nat} {x : Str} (hN : X.N.Nodup) (hi : X.N[j]? = some x := by rfl) (hx : Loc X.env.scope x := by first | exact Or.inl rfl | exact Or.inr rfl) (hf : X.fn x = true ∨ X.env.scope.names.lookup x = some .local := by first | exact .inl rfl | exact .inr rfl) : PGt X (.Name x pos) (.name j) :=
  ⟨pg_name hN hi hx hf⟩
theorem pgts_nil : PGts X [] [] := ⟨pgs_nil⟩
theorem pgts_cons {t : Tg} {ts : List Tg} (h1 : PGt X e t) (h2 : PGts X es ts) (ha : (assignEach (e :: es) X.env).map (·.2) = assign e X.env :: (assignEach es X.env).map (·.2) := by rfl) : PGts X (e :: es) (t :: ts) :=
  ⟨pgs_cons h1.pg h2.pg ha⟩
theorem pgt_tup {ts : List Tg} {k : Nat} (hc : X.calm = true) (h : PGts X es ts) (hn : (assignEach es X.env).length = tgN ts := by rfl) (hst : (assignEach es X.env).findIdx? (·.1) = none := by rfl) : PGt X (.Tuple es k pos) (.tup ts) :=
  ⟨pg_tup hc h.pg hn hst⟩
end

/-! ### [e for target in iter if test] -/
theorem VR.up {K : PySem.W.Frag} {io : List Addr} {H H' : Hp} (t : ∀ (a : Addr) (xs : List V), SqT K H a xs → SqT K H' a xs) (t2 : ∀ (a : Addr) (xs : List V), SqF K H a xs → SqF K H' a xs) : (∀ (x : Val) (v : V), VR K io H x v → VR K io H' x v) ∧ ∀ (xs : List Val) (vs : List V), VRs K io H xs vs → VRs K io H' xs vs := by
  -- the heap's other objects may change as they like
  have both : ∀ n : Nat, (∀ (x : Val) (v : V), sizeOf x ≤ n → VR K io H x v → VR K io H' x v) ∧ ∀ (xs : List Val) (vs : List V), sizeOf xs ≤ n → VRs K io H xs vs → VRs K io H' xs vs := by
    intro n
    induction n with
    | zero => exact ⟨fun x v hs _ => by cases x <;> simp at hs, fun xs v hs _ => by cases xs <;> simp at hs⟩
    | succ n ih =>
      refine ⟨fun x v hs h => ?_, fun xs vs hs h => ?_⟩
      · cases x with
        | tup xs =>
          obtain ⟨a, vs, e, hp, k⟩ := h
          exact ⟨a, vs, e, t a vs hp, ih.2 xs vs (by simp at hs; omega) k⟩
        | kl xs =>
          obtain ⟨a, vs, e, hp, k⟩ := h
          exact ⟨a, vs, e, t2 a vs hp, ih.2 xs vs (by simp at hs; omega) k⟩
        | _ => exact h
      · cases xs with
        | nil => exact h
        | cons x xs =>
          obtain ⟨v, ws, e, h1, h2⟩ := h
          exact ⟨v, ws, e, ih.1 x v (by simp at hs; omega) h1, ih.2 xs ws (by simp at hs; omega) h2⟩
  exact ⟨fun x v => (both _).1 x v (Nat.le_refl _), fun xs vs => (both _).2 xs vs (Nat.le_refl _)⟩
theorem acc_tu {K : PySem.W.Frag} {H : Hp} {D : Addr} {ws us : List V} (hD : H D = some (.lst ws)) : ∀ (a : Addr) (xs : List V), SqT K H a xs → SqT K (upd H D (.lst us)) a xs := fun a xs h => by
  rcases h with h | h
  · exact .inl (rd_mut hD h)
  · exact .inr h
theorem acc_fz {K : PySem.W.Frag} {H : Hp} {D : Addr} {ws us : List V} (hD : H D = some (.lst ws)) : ∀ (a : Addr) (xs : List V), SqF K H a xs → SqF K (upd H D (.lst us)) a xs := fun a xs h => fz_mut hD h
theorem SR.acc {K : PySem.W.Frag} {io : List Addr} {H : Hp} {S : Sto} {D : Addr} {ws us : List V} (s : SR K io H S) (hD : H D = some (.lst ws)) (hi : D ∉ io) : SR K io (L2.upd H D (.lst us)) S := by
  refine ⟨s.len, s.inj, fun n a o h1 h2 => ?_⟩
  have na : a ≠ D := fun e => hi (by rw [← e]; exact List.mem_of_getElem? h1)
  have q := s.obj n a o h1 h2
  exact q.keep (upd_ne na) (fun b x hb hn => ⟨by rw [upd_ne (ne_of hb hD (by intro z; cases z))]; exact hb, hn⟩) fun xs vs k => (VR.up (acc_tu hD) (acc_fz hD)).2 _ _ k
theorem Le.acc {K : PySem.W.Frag} {io0 io : List Addr} {B H : Hp} {D : Addr} {ws us : List V} (l : Le K io0 B io H) (hD : H D = some (.lst ws)) (hB : B D = none) : Le K io0 B io (L2.upd H D (.lst us)) :=
  ⟨l.ia, fun a xs h => acc_tu hD a xs (l.tu a xs h), fun a xs h => acc_fz hD a xs (l.fz a xs h), fun a o h k => ⟨by rw [upd_ne (ne_of_none h hB)]; exact (l.fr a o h k).1, (l.fr a o h k).2⟩⟩

def compI (src : Src) (tg : Tg) (t : Ev → M Bool) (e : Ev → M Val) (env0 : Ev) : Nat → Nat → List Val → M (List Val)
  | 0, _, acc, S => if src.fin S = true then .ok acc S else .bad
  | r + 1, i, acc, S => match src.item S i with
    | none => .bad
    | some x => match tgM tg x env0 with
      | none => .bad
      | some env2 => (t env2 S).bind fun b S2 => if b = true then (e env2 S2).bind fun y S3 => if acc.length < lim then compI src tg t e env0 r (i + 1) (acc ++ [y]) S3 else .bad
        else compI src tg t e env0 r (i + 1) acc S2
def mLc (ms : Ev → M Src) (tg : Tg) (t : Ev → M Bool) (e : Ev → M Val) (vs : List Nat) : Ev → M (List Val) := fun env S => (ms env S).bind fun src S1 => compI src tg t e (wip env vs) src.size 0 [] S1
def mYes : Ev → M Bool := fun _ S => .ok true S
section
variable {K : PySem.W.Frag} {E : XK}
theorem lc_run {wi : TI} {ms : Ev → M Src} {tg : Tg} {mt : Ev → M Bool} {me : Ev → M Val} {vs : List Nat} (hv : ∀ j ∈ tgS tg, j ∈ vs)
    (qw : ∀ io σ H env S R, ER K io H env σ → SR K io H S → FinG K (JR K H) E io H R (ms env S) → wi σ H R) {io : List Addr} {σ : L2.St} {B : Hp} {env : Ev} {S : Sto} {Q : VK} (er : ER K io B env σ) (sr : SR K io B S)
    (h : FinG K (RL K B) E io B Q (mLc ms tg mt me vs env S)) : tLc wi (tgT K tg) (tT K E mt) (tE K E me) vs σ B Q := by
  refine qw io σ B env S _ er sr (fin_bind h fun src S1 io1 H1 J eo l1 s1 jr _ => ?_)
  intro D hD
  have hB : B D = none := (fresh l1 s1 hD).1
  have hDi : D ∉ io1 := (fresh l1 s1 hD).2
  have base : FinG K (RL K B) E io1 H1 Q (compI src tg mt me (wip env vs) src.size 0 [] S1) := by
    have h2 := h
    unfold mLc at h2
    rw [eo] at h2
    exact FinG.mono l1 h2
  have er1 : ER K io1 H1 (wip env vs) (wipe σ vs) := er_wip (er.mono l1) vs
  refine ⟨fun i m H => ∃ io2 S2 acc ws, i + m = src.size ∧ Le K io1 H1 io2 H ∧ SR K io2 H S2 ∧ H D = some (.lst ws) ∧ D ∉ io2 ∧ VRs K io2 H acc ws ∧ FinG K (RL K B) E io1 H1 Q (compI src tg mt me (wip env vs) m i acc S2),
    ⟨src.size, io1, S1, [], [], Nat.zero_add _, Le.new hD, s1.new hD, upd_same, hDi, rfl, base⟩, ?_⟩
  rintro i m H ⟨io2, S2, acc, ws, hsz, l2, s2, hDv, hDn, k, hf⟩
  cases m with
  | zero =>
    left
    have ei : i = src.size := by omega
    subst ei
    simp only [compI] at hf
    by_cases hfin : src.fin S2 = true
    · rw [if_pos hfin] at hf
      exact ⟨jr.stop io2 H S2 l2.w s2 hfin, fin_ok hf l2 s2 ⟨D, ws, rfl, hDv, hB, hDn, k⟩⟩
    · rw [if_neg hfin] at hf
      exact hf.elim
  | succ m =>
    right
    simp only [compI] at hf
    cases ex : src.item S2 i with
    | none => simp only [ex] at hf; exact hf.elim
    | some x =>
      simp only [ex] at hf
      cases eg : tgM tg x (wip env vs) with
      | none => simp only [eg] at hf; exact hf.elim
      | some env2 =>
        simp only [eg] at hf
        obtain ⟨jg, jy⟩ := jr.go io2 H S2 i x l2.w s2 ex
        refine ⟨jg, fun H' => ∃ io2 S2 acc ws, i + 1 + m = src.size ∧ Le K io1 H1 io2 H' ∧ SR K io2 H' S2 ∧ H' D = some (.lst ws) ∧ D ∉ io2 ∧ VRs K io2 H' acc ws ∧ FinG K (RL K B) E io1 H1 Q (compI src tg mt me (wip env vs) m (i + 1) acc S2),
          fun H' w => ⟨m, Nat.lt_succ_self m, w⟩, fun y H' hy => ?_⟩
        obtain ⟨l3, s3, rx⟩ := jy y H' hy
        have hD3 := l3.fr D _ hDv hDn
        refine tg_ok tg x y _ env2 _ _ ((er1.mono l2).mono l3) rx eg fun σ2 er2 wp => ?_
        refine ⟨by rw [wp vs hv, wipe_wipe], ?_⟩
        have l23 := l2.trans l3
        refine ⟨io2, env2, S2, er2, s3, fin_bind (FinG.mono l23 hf) fun b S4 io4 H4 b' et l4 s4 r4 _ => ?_⟩
        cases (show b = b' from r4)
        have hD4 := l4.fr D _ hD3.1 hD3.2
        rw [et] at hf
        have hf : FinG K (RL K B) E io1 H1 Q (if b = true then (me env2 S4).bind fun y S3 => if acc.length < lim then compI src tg mt me (wip env vs) m (i + 1) (acc ++ [y]) S3 else .bad else compI src tg mt me (wip env vs) m (i + 1) acc S4) := hf
        have l24 := l23.trans l4
        cases b with
        | false =>
          rw [if_neg Bool.false_ne_true] at hf ⊢
          exact ⟨io4, S4, acc, ws, by omega, l24, s4, hD4.1, hD4.2, VRs.mono l4 _ _ (VRs.mono l3 _ _ k), hf⟩
        | true =>
          rw [if_pos rfl] at hf ⊢
          refine ⟨io4, env2, S4, er2.mono l4, s4, fin_bind (FinG.mono l24 hf) fun y5 S5 io5 H5 v5 ee l5 s5 r5 _ => ?_⟩
          have hD5 := l5.fr D _ hD4.1 hD4.2
          rw [ee] at hf
          have hf : FinG K (RL K B) E io1 H1 Q (if acc.length < lim then compI src tg mt me (wip env vs) m (i + 1) (acc ++ [y5]) S5 else .bad) := hf
          by_cases hl : acc.length < lim
          · rw [if_pos hl] at hf
            have k5 := VRs.mono l5 _ _ (VRs.mono l4 _ _ (VRs.mono l3 _ _ k))
            refine ⟨ws, hD5.1, by rw [k.length]; exact lim_lt hl, io5, S5, acc ++ [y5], ws ++ [v5], by omega, (l24.trans l5).acc hD5.1 (fresh Le.refl s1 hD).1, s5.acc hD5.1 hD5.2, upd_same, hD5.2, ?_, hf⟩
            exact (VR.up (acc_tu hD5.1) (acc_fz hD5.1)).2 _ _ (k5.app (VRs.one r5))
          · rw [if_neg hl] at hf
            exact hf.elim
end
structure PTsm (X : Cx) (E : XK) (ifs : List Expr) (m : Ev → M Bool) : Prop where
  pt : PTs X ifs (tT X.K E m)
section
variable {X : Cx} {E : XK}
theorem ptsm_nil : PTsm X E [] mYes := ⟨⟨fun pins s σ H Q I ⟨io, env, S, er, sr, h⟩ => pts_nil.run pins s σ H Q I (fin_here h sr rfl)⟩⟩
theorem ptsm_one {c : Expr} {m : Ev → M Bool} (h : PTm X E c m) : PTsm X E [c] m := ⟨pts_one h.pt⟩
theorem plm_lc {N : List Str} {sc : Scope} {elt tg iter : Expr} {ifs : List Expr} {scope : Scope} {own : List (Str × Nat)} {pos : Pos} {ms : Ev → M Src} {t : Tg} {mt : Ev → M Bool} {me : Ev → M Val} (hc : X.calm = true) (hN : X.N.Nodup) (hi : PIm X E tg iter ms) (ok : blkC N sc scope own = true) (eN : X.N = N) (eS : X.env.scope = sc)
    (hg : ∀ (s : Shared) (H : Hp) (C : Addr) (cl : List (Str × Addr)) (fp : List Addr), PGt (X.blk s H scope (compEnvC scope cl C X.env) fp) tg t) (ht : ∀ (s : Shared) (H : Hp) (C : Addr) (cl : List (Str × Addr)) (fp : List Addr), PTsm (X.blk s H scope (compEnvC scope cl C X.env) fp) E ifs mt)
    (he : ∀ (s : Shared) (H : Hp) (C : Addr) (cl : List (Str × Addr)) (fp : List Addr), PEm (X.blk s H scope (compEnvC scope cl C X.env) fp) E elt me) (hv : ∀ j ∈ tgS t, j ∈ own.map (·.2)) (hs : ∀ x, foldedSetIterable iter X.env x = pure x := by intro _; rfl) :
    PLm X E (.ListComp elt [⟨tg, iter, ifs, 0⟩] scope pos) (mLc ms t mt me (own.map (·.2))) := by
  obtain ⟨wi, pi, qi⟩ := hi.ex
  exact ⟨_, pe_lc hc hN pi (blkOk_by (by rw [eN, eS]; exact ok)) (fun s H C cl fp => (hg s H C cl fp).pg) (fun s H C cl fp => (ht s H C cl fp).pt) (fun s H C cl fp => (he s H C cl fp).pe) hs, fun io σ H env S Q er sr h => lc_run hv qi er sr h⟩
end
end Mx

set_option linter.all false
set_option maxRecDepth 100000
set_option maxHeartbeats 4000000
namespace Mx
open PySem PySem.Spec PyProof.Rows L2

/-! ### statements -/
inductive Fl where
  | nx | rt (x : Val) | bk | ct
abbrev SM := Ev → M (Fl × Ev)
def FinS (K : PySem.W.Frag) (E : XK) (io : List Addr) (H : Hp) (D : Ends) : Out (Fl × Ev) → Prop
  | .ok (.nx, env) S => ∀ io' H' σ', Le K io H io' H' → SR K io' H' S → ER K io' H' env σ' → D.nx σ' H'
  | .ok (.rt x, _) S => ∀ io' H' v, Le K io H io' H' → SR K io' H' S → VR K io' H' x v → D.rt v H'
  | .ok (.bk, env) S => ∀ io' H' σ', Le K io H io' H' → SR K io' H' S → ER K io' H' env σ' → D.bk σ' H'
  | .ok (.ct, env) S => ∀ io' H' σ', Le K io H io' H' → SR K io' H' S → ER K io' H' env σ' → D.ct σ' H'
  | .err x S => ∀ io' H' c d, Le K io H io' H' → SR K io' H' S → XR K io' H' x c d → E c d H'
  | .bad => False
section
variable {α β : Type} {K : PySem.W.Frag} {R : List Addr → Hp → α → β → Prop} {E : XK} {io io' : List Addr} {H H' : Hp} {D : Ends} {Q : β → Hp → Prop}
theorem FinS.mono {o : Out (Fl × Ev)} (l : Le K io H io' H') (h : FinS K E io H D o) : FinS K E io' H' D o := by
  cases o with
  | ok x S =>
    obtain ⟨f, env⟩ := x
    cases f with
    | nx => exact fun io2 H2 v l2 => h io2 H2 v (l.trans l2)
    | rt x => exact fun io2 H2 v l2 => h io2 H2 v (l.trans l2)
    | bk => exact fun io2 H2 v l2 => h io2 H2 v (l.trans l2)
    | ct => exact fun io2 H2 v l2 => h io2 H2 v (l.trans l2)
  | err x S => exact fun io2 H2 c d l2 => h io2 H2 c d (l.trans l2)
  | bad => exact h
theorem fis_bind {o : Out α} {f : α → M (Fl × Ev)} (h : FinS K E io H D (o.bind f))
    (k : ∀ x S io1 H1 v, o = .ok x S → Le K io H io1 H1 → SR K io1 H1 S → R io1 H1 x v → FinS K E io1 H1 D (f x S) → Q v H1) : FinG K R E io H Q o := by
  cases o with
  | ok x S => exact fun io1 H1 v l s r => k x S io1 H1 v rfl l s r (FinS.mono l h)
  | err x S => exact h
  | bad => exact h
/-- another wish behind the end -/
theorem FinS.seq {o : Out (Fl × Ev)} {f : Ev → M (Fl × Ev)} {D' : Ends}
    (h : FinS K E io H D (o.bind fun r S => match r with | (.nx, env) => f env S | q => .ok q S)) (hr : D'.rt = D.rt) (hb : D'.bk = D.bk) (hc : D'.ct = D.ct)
    (k : ∀ env S io1 H1 σ, o = .ok (.nx, env) S → Le K io H io1 H1 → SR K io1 H1 S → ER K io1 H1 env σ → FinS K E io1 H1 D (f env S) → D'.nx σ H1) : FinS K E io H D' o := by
  cases o with
  | ok x S =>
    obtain ⟨fl, env⟩ := x
    cases fl with
    | nx => exact fun io1 H1 σ l s r => k env S io1 H1 σ rfl l s r (FinS.mono l h)
    | rt x => exact fun io1 H1 v l s r => by rw [hr]; exact h io1 H1 v l s r
    | bk => exact fun io1 H1 v l s r => by rw [hb]; exact h io1 H1 v l s r
    | ct => exact fun io1 H1 v l s r => by rw [hc]; exact h io1 H1 v l s r
  | err x S => exact h
  | bad => exact h
end
structure PSm (X : Cx) (E : XK) (st : Stmt) (m : SM) : Prop where
  ex : ∃ t, PS X st t ∧ ∀ io σ H env S D, ER X.K io H env σ → SR X.K io H S → FinS X.K E io H D (m env S) → t D σ H
structure PSsm (X : Cx) (E : XK) (sts : List Stmt) (m : SM) : Prop where
  ex : ∃ t, PSs X sts t ∧ ∀ io σ H env S D, ER X.K io H env σ → SR X.K io H S → FinS X.K E io H D (m env S) → t D σ H
def tS (K : PySem.W.Frag) (E : XK) (m : SM) : TS := fun D σ H => ∃ io env S, ER K io H env σ ∧ SR K io H S ∧ FinS K E io H D (m env S)

def sNx : SM := fun env S => .ok (.nx, env) S
def sBk : SM := fun env S => .ok (.bk, env) S
def sCt : SM := fun env S => .ok (.ct, env) S
def sSeq (a b : SM) : SM := fun env S => (a env S).bind fun r S1 => match r with | (.nx, env1) => b env1 S1 | q => .ok q S1
def sExp (e : Ev → M Val) : SM := fun env S => (e env S).bind fun _ S1 => .ok (.nx, env) S1
def sRet (e : Ev → M Val) : SM := fun env S => (e env S).bind fun x S1 => .ok (.rt x, env) S1
def sRetN : SM := fun env S => .ok (.rt .non, env) S
def sIf (t : Ev → M Bool) (a b : SM) : SM := fun env S => (t env S).bind fun c S1 => if c = true then a env S1 else b env S1
def sAsg (t : Tg) (e : Ev → M Val) : SM := fun env S => (e env S).bind fun x S1 => match tgM t x env with | some env1 => .ok (.nx, env1) S1 | none => .bad
def forI (src : Src) (tg : Tg) (b : SM) : Nat → Nat → SM
  | 0, _, env, S => if src.fin S = true then .ok (.nx, env) S else .bad
  | r + 1, i, env, S => match src.item S i with
    | none => .bad
    | some x => match tgM tg x env with
      | none => .bad
      | some env2 => (b env2 S).bind fun q S2 => match q with
        | (.nx, env3) => forI src tg b r (i + 1) env3 S2
        | (.ct, env3) => forI src tg b r (i + 1) env3 S2
        | (.bk, env3) => .ok (.nx, env3) S2
        | (.rt x, env3) => .ok (.rt x, env3) S2
def sFor (ms : Ev → M Src) (tg : Tg) (b : SM) : SM := fun env S => (ms env S).bind fun src S1 => forI src tg b src.size 0 env S1
/-- how many turns of a while are served -/
def whiles : Nat := 1000000
def whileI (t : Ev → M Bool) (b : SM) : Nat → SM
  | 0, _, _ => .bad
  | n + 1, env, S => (t env S).bind fun c S1 => if c = true then (b env S1).bind fun q S2 => match q with
      | (.nx, env3) => whileI t b n env3 S2
      | (.ct, env3) => whileI t b n env3 S2
      | (.bk, env3) => .ok (.nx, env3) S2
      | (.rt x, env3) => .ok (.rt x, env3) S2
    else .ok (.nx, env) S1
def sWhile (t : Ev → M Bool) (b : SM) : SM := whileI t b whiles
section
variable {X : Cx} {E : XK} {st : Stmt} {sts : List Stmt} {a b c e o tg : Expr} {ma mb me mo : Ev → M Val} {mt : Ev → M Bool} {m m2 : SM} {pos : Pos}
theorem PSm.ps (h : PSm X E st m) : PS X st (tS X.K E m) := by
  obtain ⟨t, p, q⟩ := h.ex
  exact ⟨fun pins s σ H D I ⟨io, env, S, er, sr, hq⟩ => p.run pins s σ H D I (q io σ H env S D er sr hq)⟩
theorem PSsm.ps (h : PSsm X E sts m) : PSs X sts (tS X.K E m) := by
  obtain ⟨t, p, q⟩ := h.ex
  exact ⟨fun pins s σ H D I ⟨io, env, S, er, sr, hq⟩ => p.run pins s σ H D I (q io σ H env S D er sr hq)⟩
theorem pssm_nil : PSsm X E [] sNx := ⟨_, pss_nil, fun io σ H env S D er sr h => h io H σ Le.refl sr er⟩
theorem pssm_cons (h1 : PSm X E st m) (h2 : PSsm X E sts m2) : PSsm X E (st :: sts) (sSeq m m2) := by
  obtain ⟨t1, p1, q1⟩ := h1.ex
  obtain ⟨t2, p2, q2⟩ := h2.ex
  refine ⟨_, pss_cons p1 p2, fun io σ H env S D er sr h => ?_⟩
  exact q1 io σ H env S { D with nx := t2 D } er sr (FinS.seq h rfl rfl rfl fun env1 S1 io1 H1 σ1 _ l s r h1 => q2 io1 σ1 H1 env1 S1 D r s h1)
theorem pssm_one (h1 : PSm X E st m) : PSsm X E [st] m := let ⟨t, p, q⟩ := h1.ex; ⟨t, pss_one p, q⟩
theorem psm_pass : PSm X E (.Pass pos) sNx := ⟨_, ps_pass, fun io σ H env S D er sr h => h io H σ Le.refl sr er⟩
theorem psm_break : PSm X E (.Break pos) sBk := ⟨_, ps_break, fun io σ H env S D er sr h => h io H σ Le.refl sr er⟩
theorem psm_continue : PSm X E (.Continue pos) sCt := ⟨_, ps_continue, fun io σ H env S D er sr h => h io H σ Le.refl sr er⟩
theorem psm_expr (he : PEm X E e me) (hs : swapsWith e none pos.line X.env = pure false := by rfl) : PSm X E (.Expr e pos) (sExp me) := by
  obtain ⟨t, p, q⟩ := he.ex
  refine ⟨_, ps_expr p hs, fun io σ H env S D er sr h => ?_⟩
  exact q io σ H env S _ er sr (fis_bind h fun x S1 io1 H1 v _ l s r h1 => h1 io1 H1 σ Le.refl s (er.mono l))
theorem psm_ret (he : PEm X E e me) : PSm X E (.Return (some e) pos) (sRet me) := by
  obtain ⟨t, p, q⟩ := he.ex
  refine ⟨_, ps_ret p, fun io σ H env S D er sr h => ?_⟩
  exact q io σ H env S _ er sr (fis_bind h fun x S1 io1 H1 v _ l s r h1 => h1 io1 H1 v Le.refl s r)
theorem psm_retN : PSm X E (.Return none pos) sRetN := ⟨_, ps_retN, fun io σ H env S D er sr h => h io H .non Le.refl sr rfl⟩
theorem psm_if {xs ys : List Stmt} (hc : PTm X E c mt) (ha : PSsm X E xs m) (hb : PSsm X E ys m2) : PSm X E (.If c xs ys pos) (sIf mt m m2) := by
  obtain ⟨t, p, q⟩ := hc.ex
  obtain ⟨t1, p1, q1⟩ := ha.ex
  obtain ⟨t2, p2, q2⟩ := hb.ex
  refine ⟨_, ps_if p p1 p2, fun io σ H env S D er sr h => ?_⟩
  refine q io σ H env S _ er sr (fis_bind h fun k S1 io1 H1 k' _ l s r h1 => ?_)
  cases (show k = k' from r)
  cases k with
  | true => exact iteT (q1 io1 σ H1 env S1 D (er.mono l) s h1)
  | false => exact iteF (q2 io1 σ H1 env S1 D (er.mono l) s h1)
theorem asg_run {te : TE} {t : Tg} (q : ∀ io σ H env S Q, ER X.K io H env σ → SR X.K io H S → FinG X.K (VR X.K) E io H Q (me env S) → te σ H Q) {io : List Addr} {σ : L2.St} {H : Hp} {env : Ev} {S : Sto} {D : Ends} (er : ER X.K io H env σ) (sr : SR X.K io H S)
    (h : FinS X.K E io H D (sAsg t me env S)) : tAsg te (tgT X.K t) D σ H := by
  refine q io σ H env S _ er sr (fis_bind h fun x S1 io1 H1 v _ l s r h1 => ?_)
  cases eg : tgM t x env with
  | none => simp only [eg] at h1; exact h1.elim
  | some env1 =>
    simp only [eg] at h1
    exact tg_ok t x v env env1 σ _ (er.mono l) r eg fun σ1 er1 _ => h1 io1 H1 σ1 Le.refl s er1
theorem psm_asg {t : Tg} (ht : PGt X tg t) (he : PEm X E e me) (hs : swapsWithSole [tg] e pos.line X.env = pure false := by rfl) (hw : swappedStores [tg] e X.env = pure none := by rfl)
    (h1 : (assignEach [tg] X.env).map (·.2) = [assign tg X.env] := by rfl) : PSm X E (.Assign [tg] e pos) (sAsg t me) := by
  obtain ⟨te, p, q⟩ := he.ex
  exact ⟨_, ps_asg p ht.pg hs hw h1, fun io σ H env S D er sr h => asg_run q er sr h⟩
/-- y = [e for ..] -/
theorem psm_setLc {N : List Str} {sc : Scope} {j : Nat} {y : Str} {py : Pos} {elt tg iter : Expr} {ifs : List Expr} {scope : Scope} {own : List (Str × Nat)} {spos : Pos} {ms : Ev → M Src} {t : Tg} {mt : Ev → M Bool} {me : Ev → M Val} (hc : X.calm = true) (hN : X.N.Nodup) (hi : PIm X E tg iter ms) (ok : blkC N sc scope own = true) (eN : X.N = N) (eS : X.env.scope = sc)
    (hg : ∀ (s : Shared) (H : Hp) (C : Addr) (cl : List (Str × Addr)) (fp : List Addr), PGt (X.blk s H scope (compEnvC scope cl C X.env) fp) tg t) (ht : ∀ (s : Shared) (H : Hp) (C : Addr) (cl : List (Str × Addr)) (fp : List Addr), PTsm (X.blk s H scope (compEnvC scope cl C X.env) fp) E ifs mt)
    (he : ∀ (s : Shared) (H : Hp) (C : Addr) (cl : List (Str × Addr)) (fp : List Addr), PEm (X.blk s H scope (compEnvC scope cl C X.env) fp) E elt me) (hv : ∀ j ∈ tgS t, j ∈ own.map (·.2))
    (hy : X.N[j]? = some y := by rfl) (hyl : X.env.scope.names.lookup y = some .local := by rfl) (hsw : swapsWith (.ListComp elt [⟨tg, iter, ifs, 0⟩] scope pos) (some (.Name y py)) spos.line X.env = pure true := by exact sw_true rfl rfl rfl (by decide +kernel)) (hs : ∀ x, foldedSetIterable iter X.env x = pure x := by intro _; rfl) :
    PSm X E (.Assign [.Name y py] (.ListComp elt [⟨tg, iter, ifs, 0⟩] scope pos) spos) (sAsg (.name j) (mNew (mLc ms t mt me (own.map (·.2))))) := by
  obtain ⟨wi, pi, qi⟩ := hi.ex
  have pl : PLm X E (.ListComp elt [⟨tg, iter, ifs, 0⟩] scope pos) (mLc ms t mt me (own.map (·.2))) := plm_lc hc hN hi ok eN eS hg ht he hv hs
  refine ⟨_, ps_setLc (te := tE X.K E me) (tt := tT X.K E mt) (g := tgT X.K t) hc hN hy hyl hsw pi (blkOk_by (by rw [eN, eS]; exact ok)) (fun s H C cl fp => (hg s H C cl fp).pg) (fun s H C cl fp => (ht s H C cl fp).pt) (fun s H C cl fp => (he s H C cl fp).pe) hs, fun io σ H env S D er sr h => ?_⟩
  -- the list is put into the store, as for a value
  have q : ∀ io σ H env S Q, ER X.K io H env σ → SR X.K io H S → FinG X.K (VR X.K) E io H Q (mNew (mLc ms t mt me (own.map (·.2))) env S) → tLc wi (tgT X.K t) (tT X.K E mt) (tE X.K E me) (own.map (·.2)) σ H Q := fun io σ H env S Q er sr h => by
    refine lc_run hv qi er sr (fin_bind h fun xs S1 io1 H1 v eo l1 s1 r1 _ => ?_)
    obtain ⟨a, vs, rfl, hv, hb, hi, k⟩ := r1
    have h2 : FinG X.K (VR X.K) E io H Q (mNew (mLc ms t mt me (own.map (·.2))) env S) := h
    unfold mNew at h2
    rw [eo] at h2
    refine fin_ok h2 (l1.own hb hi) (s1.own hi hv k) ⟨a, ?_, rfl⟩
    rw [← s1.len, List.getElem?_append_right (Nat.le_refl _), Nat.sub_self]
    rfl
  exact asg_run (t := .name j) q er sr h
theorem psm_for {iter : Expr} {body : List Stmt} {ms : Ev → M Src} {t : Tg} (hp : PassesOwn (model X.prog X.w) X.A X.env X.xe) (hc : X.calm = true) (hi : PIm X E tg iter ms) (hg : PGt X tg t) (hb : PSsm X E body m)
    (hs : ∀ x, foldedSetIterable iter X.env x = pure x := by intro _; rfl) : PSm X E (.For tg iter body [] pos) (sFor ms t m) := by
  obtain ⟨wi, pi, qi⟩ := hi.ex
  refine ⟨_, ps_for hp hc pi hg.pg hb.ps hs, fun io σ H env S D er sr h => ?_⟩
  refine qi io σ H env S _ er sr (fis_bind h fun src S1 io1 H1 J eo l1 s1 jr h1 => ?_)
  refine ⟨fun i r σ2 H2 => ∃ io2 env2 S2, i + r = src.size ∧ Le X.K io1 H1 io2 H2 ∧ ER X.K io2 H2 env2 σ2 ∧ SR X.K io2 H2 S2 ∧ FinS X.K E io2 H2 D (forI src t m r i env2 S2),
    ⟨src.size, io1, env, S1, Nat.zero_add _, Le.refl, er.mono l1, s1, h1⟩, ?_⟩
  rintro i r σ2 H2 ⟨io2, env2, S2, hsz, l2, er2, s2, hf⟩
  cases r with
  | zero =>
    left
    have ei : i = src.size := by omega
    subst ei
    simp only [forI] at hf
    by_cases hfin : src.fin S2 = true
    · rw [if_pos hfin] at hf
      exact ⟨jr.stop io2 H2 S2 l2.w s2 hfin, hf io2 H2 σ2 Le.refl s2 er2⟩
    · rw [if_neg hfin] at hf
      exact hf.elim
  | succ r =>
    right
    simp only [forI] at hf
    cases ex : src.item S2 i with
    | none => simp only [ex] at hf; exact hf.elim
    | some x =>
      simp only [ex] at hf
      cases eg : tgM t x env2 with
      | none => simp only [eg] at hf; exact hf.elim
      | some env3 =>
        simp only [eg] at hf
        obtain ⟨jg, jy⟩ := jr.go io2 H2 S2 i x l2.w s2 ex
        refine ⟨jg, fun σ3 H3 => ∃ io3 env3 S3, i + 1 + r = src.size ∧ Le X.K io1 H1 io3 H3 ∧ ER X.K io3 H3 env3 σ3 ∧ SR X.K io3 H3 S3 ∧ FinS X.K E io3 H3 D (forI src t m r (i + 1) env3 S3),
          fun σ3 H3 w => ⟨r, Nat.lt_succ_self r, w⟩, fun y H' hy => ?_⟩
        obtain ⟨l3, s3, rx⟩ := jy y H' hy
        refine tg_ok t x y _ env3 _ _ (er2.mono l3) rx eg fun σ3 er3 _ => ?_
        refine ⟨io2, env3, S2, er3, s3, ?_⟩
        have hf := FinS.mono l3 hf
        have l23 := l2.trans l3
        cases eb : m env3 S2 with
        | bad => rw [eb] at hf; exact hf.elim
        | err x S4 => rw [eb] at hf; exact hf
        | ok q S4 =>
          rw [eb] at hf
          obtain ⟨fl, env4⟩ := q
          cases fl with
          | nx => exact fun io5 H5 σ5 l5 s5 e5 => ⟨io5, env4, S4, by omega, l23.trans l5, e5, s5, FinS.mono l5 hf⟩
          | ct => exact fun io5 H5 σ5 l5 s5 e5 => ⟨io5, env4, S4, by omega, l23.trans l5, e5, s5, FinS.mono l5 hf⟩
          | bk => exact fun io5 H5 σ5 l5 s5 e5 => hf io5 H5 σ5 l5 s5 e5
          | rt x => exact fun io5 H5 σ5 l5 s5 e5 => hf io5 H5 σ5 l5 s5 e5
theorem psm_while {body : List Stmt} (hp : PassesOwn (model X.prog X.w) X.A X.env X.xe) (hc : PTm X E c mt) (hb : PSsm X E body m) : PSm X E (.While c body [] pos) (sWhile mt m) := by
  obtain ⟨tc, pc, qc⟩ := hc.ex
  refine ⟨_, ps_while hp pc hb.ps, fun io σ H env S D er sr h => ?_⟩
  refine ⟨fun n σ2 H2 => ∃ io2 env2 S2, Le X.K io H io2 H2 ∧ ER X.K io2 H2 env2 σ2 ∧ SR X.K io2 H2 S2 ∧ FinS X.K E io2 H2 D (whileI mt m n env2 S2), ⟨whiles, io, env, S, Le.refl, er, sr, h⟩, ?_⟩
  rintro n σ2 H2 ⟨io2, env2, S2, l2, er2, s2, hf⟩
  cases n with
  | zero => exact hf.elim
  | succ n =>
    simp only [whileI] at hf
    refine qc io2 σ2 H2 env2 S2 _ er2 s2 (fis_bind hf fun k S3 io3 H3 k' _ l3 s3 r3 h3 => ?_)
    cases (show k = k' from r3)
    cases k with
    | false => exact iteF (h3 io3 H3 σ2 Le.refl s3 (er2.mono l3))
    | true =>
      refine iteT ⟨fun σ4 H4 => ∃ io4 env4 S4, Le X.K io H io4 H4 ∧ ER X.K io4 H4 env4 σ4 ∧ SR X.K io4 H4 S4 ∧ FinS X.K E io4 H4 D (whileI mt m n env4 S4), fun σ4 H4 w => ⟨n, Nat.lt_succ_self n, w⟩, io3, env2, S3, er2.mono l3, s3, ?_⟩
      have l23 := l2.trans l3
      have h3 : FinS X.K E io3 H3 D ((m env2 S3).bind fun q S2 => match q with
        | (.nx, env3) => whileI mt m n env3 S2
        | (.ct, env3) => whileI mt m n env3 S2
        | (.bk, env3) => .ok (.nx, env3) S2
        | (.rt x, env3) => .ok (.rt x, env3) S2) := h3
      cases eb : m env2 S3 with
      | bad => rw [eb] at h3; exact h3.elim
      | err x S4 => rw [eb] at h3; exact h3
      | ok q S4 =>
        rw [eb] at h3
        obtain ⟨fl, env4⟩ := q
        cases fl with
        | nx => exact fun io5 H5 σ5 l5 s5 e5 => ⟨io5, env4, S4, l23.trans l5, e5, s5, FinS.mono l5 h3⟩
        | ct => exact fun io5 H5 σ5 l5 s5 e5 => ⟨io5, env4, S4, l23.trans l5, e5, s5, FinS.mono l5 h3⟩
        | bk => exact fun io5 H5 σ5 l5 s5 e5 => h3 io5 H5 σ5 l5 s5 e5
        | rt x => exact fun io5 H5 σ5 l5 s5 e5 => h3 io5 H5 σ5 l5 s5 e5
end
end Mx

set_option linter.all false
set_option maxRecDepth 100000
set_option maxHeartbeats 4000000
namespace Mx
open PySem PySem.Spec PyProof.Rows L2

/-- o[i] = e, o a list of the store -/
def sSub (o i e : Ev → M Val) : SM := fun env S => (e env S).bind fun x S1 => (o env S1).bind fun l S2 => (i env S2).bind fun k S3 => match l, k with
  | .loc n, .int j => (match S3[n]? with
    | some (.lst xs) => (match ixN xs.length j with | some q => .ok (.nx, env) (S3.set n (.lst (xs.set q x))) | none => .bad)
    | _ => .bad)
  | _, _ => .bad
/-- x.append(e), x a list of the store -/
def sApp (o e : Ev → M Val) : SM := fun env S => (o env S).bind fun l S1 => match l with
  | .loc n => (match S1[n]? with
    | some (.lst _) => (e env S1).bind fun x S2 => (match S2[n]? with
      | some (.lst xs) => if xs.length < lim then .ok (.nx, env) (S2.set n (.lst (xs ++ [x]))) else .bad
      | _ => .bad)
    | _ => .bad)
  | _ => .bad
def gIAdd : Val → Val → M Val
  | .int i, .int j, S => .ok (.int (i + j)) S
  | .str x, .str y, S => if x.length + y.length ≤ lim then .ok (.str (x ++ y)) S else .bad
  | _, _, _ => .bad
def sAug (j : Nat) (g : Val → Val → M Val) (e : Ev → M Val) : SM := fun env S => match env[j]? with
  | some (some x) => (e env S).bind fun y S1 => (g x y S1).bind fun z S2 => .ok (.nx, env.set j (some z)) S2
  | _ => .bad
section
variable {X : Cx} {E : XK} {st : Stmt} {sts : List Stmt} {a b c e o tg : Expr} {es : List Expr} {ma mb mc me mo mi : Ev → M Val} {pos p : Pos} {x : Str}
theorem psm_sub {i : Expr} {p2 : Pos} (he : PEm X E e me) (ho : PEm X E o mo) (hi : PEm X E i mi) (hs : swapsWithSole [.Subscript o i p2] e pos.line X.env = pure false := by rfl) (hw : swappedStores [.Subscript o i p2] e X.env = pure none := by rfl)
    (h1 : (assignEach [.Subscript o i p2] X.env).map (·.2) = [assign (.Subscript o i p2) X.env] := by rfl)
    (hq : ∀ v, assign (.Subscript o i p2) X.env v = (do
      let ov ← holding [v] (eval o X.env)
      let iv ← holding [v, ov] (eval i X.env)
      standAt p2
      holding [v, ov, iv] (setItem ov iv v)
      release [v, ov, iv] []) := by intro _; rfl) : PSm X E (.Assign [.Subscript o i p2] e pos) (sSub mo mi me) := by
  obtain ⟨te, pe, qe⟩ := he.ex
  obtain ⟨to, po, qo⟩ := ho.ex
  obtain ⟨ti, pi, qi⟩ := hi.ex
  refine ⟨_, ps_asg pe (pg_sub po pi set_list hq) hs hw h1, fun io σ H env S D er sr h => ?_⟩
  refine qe io σ H env S _ er sr (fis_bind h fun y S1 io1 H1 v _ l1 s1 r1 h1 => ?_)
  refine qo io1 σ H1 env S1 _ (er.mono l1) s1 (fis_bind h1 fun l S2 io2 H2 w _ l2 s2 r2 h2 => ?_)
  refine qi io2 σ H2 env S2 _ (er.mono (l1.trans l2)) s2 (fis_bind h2 fun k S3 io3 H3 u _ l3 s3 r3 h3 => ?_)
  cases l with
  | loc n =>
    cases k with
    | int j =>
      cases (show u = .int j from r3)
      obtain ⟨q, hi, rfl⟩ := VR.mono l3 _ _ r2
      simp only at h3
      cases eo : S3[n]? with
      | none => simp only [eo] at h3; exact h3.elim
      | some ob =>
        cases ob with
        | lst xs =>
          simp only [eo] at h3
          obtain ⟨vs, hv, kk⟩ := s3.is eo hi
          cases ei : ixN xs.length j with
          | none => simp only [ei] at h3; exact h3.elim
          | some t =>
            simp only [ei] at h3
            refine ⟨q, vs, j, t, rfl, rfl, hv, by rw [kk.length]; exact ei, ?_⟩
            have L : Le X.K io3 H3 io3 (upd H3 q (.lst (vs.set t v))) := Le.mut hv hi
            exact h3 io3 _ σ L (s3.upd hi eo hv (VRs.set t (VR.mono (l2.trans l3) _ _ r1) kk)) (er.mono ((l1.trans (l2.trans l3)).trans L))
        | _ => first | exact h3.elim | (simp only [eo] at h3; first | exact h3.elim | cases h3) | (dsimp only at h3; exact h3.elim) | cases h3
    | _ => exact h3.elim
  | _ => exact h3.elim
theorem psm_app {apos : Pos} (ho : PEm X E o mo) (he : PEm X E e me) (hsw : swapsWith (.Call (.Attribute o "append" apos) [e] [] p) none pos.line X.env = pure false := by rfl) (hbase : attributeBase o "append" X.env (eval o X.env) = eval o X.env := by rfl)
    (hfew : ((backTo p (starEach [e] X.env)).all (fun x => !x.1) && (backToKw p (keywordEach [] X.env)).all (fun x => x.1.isSome)
      && decide (([e] : List Expr).length + ([] : List Keyword).length + (if ([] : List Keyword).isEmpty then 0 else 1) < 30)) = true := by rfl)
    (hline : (apos.endLine == p.line) = true := by rfl) (hs : starEach [e] X.env = (false, eval e X.env) :: starEach [] X.env := by rfl) (hplain : (backTo p (starEach [] X.env)).any (·.1) = false := by rfl) :
    PSm X E (.Expr (.Call (.Attribute o "append" apos) [e] [] p) pos) (sApp mo me) := by
  obtain ⟨to, po, qo⟩ := ho.ex
  obtain ⟨te, pe, qe⟩ := he.ex
  refine ⟨_, ps_expr (pe_bm PySem.F.plainAttrs_list PySem.F.slot_list_append PySem.F.type_list_append mt_append po (pa_cons pe pa_nil hs) hbase hfew hline hs hplain) hsw, fun io σ H env S D er sr h => ?_⟩
  refine qo io σ H env S _ er sr (fis_bind h fun l S1 io1 H1 v _ l1 s1 r1 h1 => ?_)
  cases l with
  | loc n =>
    obtain ⟨q, hi, rfl⟩ := r1
    simp only at h1
    cases eo : S1[n]? with
    | none => simp only [eo] at h1; exact h1.elim
    | some ob =>
      cases ob with
      | lst xs0 =>
        simp only [eo] at h1
        obtain ⟨vs0, hv0, _⟩ := s1.is eo hi
        refine ⟨.inl ⟨rfl, _, SqL.of hv0⟩, ?_⟩
        refine qe io1 σ H1 env S1 _ (er.mono l1) s1 (fis_bind h1 fun y S2 io2 H2 w _ l2 s2 r2 h2 => ?_)
        cases e2 : S2[n]? with
        | none => simp only [e2] at h2; exact h2.elim
        | some ob2 =>
          cases ob2 with
          | lst xs =>
            simp only [e2] at h2
            have hi2 := l2.ia n q hi
            obtain ⟨vs, hv, kk⟩ := s2.is e2 hi2
            by_cases hz : xs.length < lim
            · rw [if_pos hz] at h2
              have L : Le X.K io2 H2 io2 (upd H2 q (.lst (vs ++ [w]))) := Le.mut hv hi2
              exact ⟨q, vs, w, rfl, rfl, hv, by rw [kk.length]; exact lim_lt hz, h2 io2 _ σ L (s2.upd hi2 e2 hv (kk.app (VRs.one r2))) (er.mono ((l1.trans l2).trans L))⟩
            · rw [if_neg hz] at h2
              exact h2.elim
          | _ => first | exact h2.elim | (simp only [e2] at h2; first | exact h2.elim | cases h2) | (dsimp only at h2; exact h2.elim) | cases h2
      | _ => first | exact h1.elim | (simp only [eo] at h1; first | exact h1.elim | cases h1) | (dsimp only at h1; exact h1.elim) | cases h1
  | _ => exact h1.elim
theorem psm_aug {op : Operator} {g : Val → Val → M Val} {j : Nat} {y : Str} {p2 : Pos} (hN : X.N.Nodup) (ho : OpM X E (inplaceOp op) g) (he : PEm X E e me) (hi : X.N[j]? = some y := by rfl) (hx : Loc X.env.scope y := by first | exact Or.inl rfl | exact Or.inr rfl)
    (hf : X.fn y = true ∨ X.env.scope.names.lookup y = some .local := by first | exact .inl rfl | exact .inr rfl) : PSm X E (.AugAssign (.Name y p2) op e pos) (sAug j g me) := by
  obtain ⟨te, pe, qe⟩ := he.ex
  obtain ⟨r, pr, qr⟩ := ho
  refine ⟨_, ps_aug hN hi hx pe (ti := r) (fun pins s σ H x y v u Q I rx ry h => pr pins s σ H x y v u Q I rx ry h) hf, fun io σ H env S D er sr h => ?_⟩
  unfold sAug at h
  cases ej : env[j]? with
  | none => simp only [ej] at h; exact h.elim
  | some ob =>
    cases ob with
    | none => simp only [ej] at h; exact h.elim
    | some x =>
      simp only [ej] at h
      obtain ⟨v, e1, rv⟩ := er.get j x ej
      refine ⟨v, e1, qe io σ H env S _ er sr (fis_bind h fun y S1 io1 H1 w _ l1 s1 r1 h1 => ?_)⟩
      refine qr io1 H1 S1 x y v w _ s1 (VR.mono l1 _ _ rv) r1 (fis_bind h1 fun z S2 io2 H2 u _ l2 s2 r2 h2 => ?_)
      exact h2 io2 H2 _ Le.refl s2 ((er.mono (l1.trans l2)).set j r2)
theorem opm_iadd : OpM X E (inplaceOp .Add) gIAdd := by
  refine ⟨_, OpR.or iop_add iop_add_str, fun io H S x y v w Q s rx ry h => ?_⟩
  cases x with
  | int i =>
    cases y with
    | int j =>
      cases (show v = .int i from rx)
      cases (show w = .int j from ry)
      exact .inl ⟨i, j, rfl, rfl, fin_here h s rfl⟩
    | _ => exact h.elim
  | str x =>
    cases y with
    | str y =>
      cases (show v = .str _ from rx)
      cases (show w = .str _ from ry)
      simp only [gIAdd] at h
      by_cases hl : x.length + y.length ≤ lim
      · rw [if_pos hl] at h
        refine .inr ⟨_, _, rfl, rfl, ?_, ?_⟩
        · show x.toArray.size + y.toArray.size ≤ sizeLine
          rw [List.size_toArray, List.size_toArray]
          exact lim_le hl
        · have e : ((⟨x.toArray⟩ : Str) ++ (⟨y.toArray⟩ : Str)) = ⟨(x ++ y).toArray⟩ := by
            show (⟨x.toArray ++ y.toArray⟩ : Str) = _
            rw [List.append_toArray]
          rw [e]
          exact fin_here h s rfl
      · rw [if_neg hl] at h
        exact h.elim
    | _ => exact h.elim
  | _ => exact h.elim

/-! ### defs and their calls -/
/-- a def's promise: it does what g does -/
def spI (K : PySem.W.Frag) (g : List Val → M Val) : Sp := fun vs H Q E => ∃ io S xs, SR K io H S ∧ VRs K io H xs vs ∧ FinG K (VR K) E io H Q (g xs S)
/-- a def as it stands, by its name -/
structure Fd (P : Program) (w : World) (K : PySem.W.Frag) (mg : Str → Option Value) (base : Heap) (CX : CXT) (k : Nat) (x : Str) (g : List Val → M Val) : Prop where
  ex : ∃ f fd ps, FnOk P w K mg base CX k f fd ps (spI K g) ∧ mg x = some (.ref f) ∧ PySem.W.keepIn K (.ref f) = true ∧ Binds K fd ps []
def mCall (g : List Val → M Val) (m : Ev → M (List Val)) : Ev → M Val := fun env S => (m env S).bind fun xs S1 => g xs S1
variable {CX : CXT} {k : Nat} {g : List Val → M Val} {mr : Ev → M (List Val)}
theorem pem_call (c : Fd X.prog X.w X.K X.mg X.base CX k x g) (hr : Room k X.A) (hx : Passes CX X E) (ha : PAm X E (e :: es) mr) (hg : Gl X x := by rfl) (hdb : (x == ("__debug__" : Str)) = false := by decide) (he : starEach (e :: es) X.env = (false, eval e X.env) :: starEach es X.env := by rfl) (hpl : (backTo pos (starEach es X.env)).any (·.1) = false := by rfl) :
    PEm X E (.Call (.Name x p) (e :: es) [] pos) (mCall g mr) := by
  obtain ⟨f, fd, ps, F, hm, hk, hb⟩ := c.ex
  obtain ⟨t, pt, qt⟩ := ha.ex
  refine ⟨_, pe_call F hr hg hm hk hb .nil hx pt hdb he hpl, fun io σ H env S Q er sr h => ?_⟩
  refine qt io σ H env S _ er sr (fin_bind h fun xs S1 io1 H1 vs _ l1 s1 r1 h1 => ?_)
  rw [List.append_nil]
  exact ⟨io1, S1, xs, s1, r1, h1⟩
theorem pem_call0 (c : Fd X.prog X.w X.K X.mg X.base CX k x g) (hr : Room k X.A) (hx : Passes CX X E) (hg : Gl X x := by rfl) (hdb : (x == ("__debug__" : Str)) = false := by decide) : PEm X E (.Call (.Name x p) [] [] pos) (mCall g mNil) := by
  obtain ⟨f, fd, ps, F, hm, hk, hb⟩ := c.ex
  refine ⟨_, pe_call0 F hr hg hm hk hb .nil hx hdb, fun io σ H env S Q er sr h => ?_⟩
  exact ⟨io, S, [], sr, rfl, h⟩
end
/-- a def's body run: n parameters, N names -/
def runF (n N : Nat) (b : SM) : List Val → M Val := fun xs S => if xs.length = n then (b (xs.map some ++ List.replicate (N - xs.length) none) S).bind fun q S1 => match q with
    | (.nx, _) => .ok .non S1
    | (.rt v, _) => .ok v S1
    | _ => .bad
  else .bad
/-! what a def has laid for itself alone is forgotten behind it -/
mutual
def bel (n : Nat) : Val → Bool
  | .tup xs => bels n xs
  | .kl xs => bels n xs
  | .loc m => decide (m < n)
  | _ => true
def bels (n : Nat) : List Val → Bool
  | [] => true
  | x :: xs => bel n x && bels n xs
end
def Ob.bel (n : Nat) : Ob → Bool
  | .lst xs => bels n xs
  | .dic kvs => bels n (kvs.map (·.2))
  | .ins _ fs => bels n (fs.map (·.2))
def trm (g : List Val → M Val) : List Val → M Val := fun xs S => match g xs S with
  | .ok v S1 => if (bel S.length v && (S1.take S.length).all (Ob.bel S.length)) = true then .ok v (S1.take S.length) else .ok v S1
  | o => o
section
variable {K : PySem.W.Frag} {io : List Addr} {H : Hp} {S : Sto}
mutual
theorem VR.cut (n : Nat) : ∀ (x : Val) (v : V), bel n x = true → VR K io H x v → VR K (io.take n) H x v
  | .non, _, _, h => h
  | .bl _, _, _, h => h
  | .int _, _, _, h => h
  | .str _, _, _, h => h
  | .ext _, _, _, h => h
  | .loc m, _, hb, ⟨a, h, e⟩ => ⟨a, by rw [List.getElem?_take_of_lt (of_decide_eq_true hb)]; exact h, e⟩
  | .tup xs, _, hb, ⟨a, vs, e, h, k⟩ => ⟨a, vs, e, h, VRs.cut2 n xs vs hb k⟩
  | .kl xs, _, hb, ⟨a, vs, e, h, k⟩ => ⟨a, vs, e, h, VRs.cut2 n xs vs hb k⟩
theorem VRs.cut2 (n : Nat) : ∀ (xs : List Val) (vs : List V), bels n xs = true → VRs K io H xs vs → VRs K (io.take n) H xs vs
  | [], _, _, h => h
  | x :: xs, _, hb, ⟨v, ws, e, h, k⟩ => by
    simp only [bels, Bool.and_eq_true] at hb
    exact ⟨v, ws, e, VR.cut n x v hb.1 h, VRs.cut2 n xs ws hb.2 k⟩
end
theorem trm_ok {g : List Val → M Val} {xs : List Val} {E : XK} {Q : VK} (s : SR K io H S) (h : FinG K (VR K) E io H Q (trm g xs S)) : FinG K (VR K) E io H Q (g xs S) := by
  unfold trm at h
  cases eo : g xs S with
  | bad => rw [eo] at h; exact h
  | err x S1 => rw [eo] at h; exact h
  | ok v S1 =>
    rw [eo] at h
    simp only at h
    by_cases hc : (bel S.length v && (S1.take S.length).all (Ob.bel S.length)) = true
    · rw [if_pos hc] at h
      rw [Bool.and_eq_true] at hc
      intro io' H' w l s' r
      have hpre : io = io'.take S.length := by
        refine List.ext_getElem? fun i => ?_
        by_cases hi : i < S.length
        · rw [List.getElem?_take_of_lt hi, List.getElem?_eq_getElem (by rw [s.len]; exact hi)]
          exact (l.ia i _ (List.getElem?_eq_getElem (by rw [s.len]; exact hi))).symm
        · rw [List.getElem?_eq_none (by rw [s.len]; omega), List.getElem?_eq_none (by rw [List.length_take]; omega)]
      have hle : S.length ≤ S1.length := by
        rw [← s.len, ← s'.len]
        rcases Nat.lt_or_ge io'.length io.length with hlt | hge
        · have := l.ia io'.length _ (List.getElem?_eq_getElem hlt)
          rw [List.getElem?_eq_none (Nat.le_refl _)] at this
          cases this
        · exact hge
      refine h io H' w ⟨fun _ _ h => h, l.tu, l.fz, fun a o ha hn => ⟨(l.fr a o ha hn).1, hn⟩⟩ ?_ ?_
      · refine ⟨by rw [List.length_take, Nat.min_eq_left hle]; exact s.len, fun n m a h1 h2 => s.inj n m a h1 h2, fun n a o h1 h2 => ?_⟩
        have hn := (List.getElem?_eq_some_iff.mp h1).1
        rw [s.len] at hn
        rw [List.getElem?_take_of_lt hn] at h2
        have q := s'.obj n a o (l.ia n a h1) h2
        have hb := List.all_eq_true.mp hc.2 o (List.mem_of_getElem? (by rw [List.getElem?_take_of_lt hn]; exact h2))
        cases o with
        | lst ys =>
          obtain ⟨vs, hv, k⟩ := q
          refine ⟨vs, hv, ?_⟩
          rw [hpre]
          exact VRs.cut2 _ _ _ hb k
        | dic kvs =>
          obtain ⟨vs, hv, k⟩ := q
          refine ⟨vs, hv, ?_⟩
          rw [hpre]
          exact VRs.cut2 _ _ _ hb k
        | ins C fs =>
          obtain ⟨dx, vs, hv, hd, hi, k⟩ := q
          refine ⟨dx, vs, hv, hd, fun z => hi (by rw [hpre] at z; exact List.mem_of_mem_take z), ?_⟩
          rw [hpre]
          exact VRs.cut2 _ _ _ hb k
      · rw [hpre]
        exact VR.cut _ _ _ hc.1 r
    · rw [if_neg hc] at h
      exact h
end
theorem er_start {K : PySem.W.Frag} {io : List Addr} {H : Hp} {N : List Str} {xs : List Val} {vs : List V} (r : VRs K io H xs vs) : ER K io H (xs.map some ++ List.replicate (N.length - xs.length) none) (L2.start N vs) := by
  refine ⟨?_, fun i y e => ?_⟩
  · unfold L2.start
    rw [List.length_append, List.length_append, List.length_map, List.length_map, List.length_replicate, List.length_replicate, r.length]
  · by_cases hi : i < xs.length
    · rw [List.getElem?_append_left (by rw [List.length_map]; exact hi), List.getElem?_map] at e
      cases ex : xs[i]? with
      | none => rw [ex] at e; cases e
      | some z =>
        rw [ex] at e
        cases e
        obtain ⟨v, ev, rv⟩ := r.get ex
        refine ⟨v, ?_, rv⟩
        unfold L2.start
        rw [List.getElem?_append_left (by rw [List.length_map, r.length]; exact hi), List.getElem?_map, ev]
        rfl
    · rw [List.getElem?_append_right (by rw [List.length_map]; omega), List.length_map] at e
      have := List.mem_of_getElem? e
      rw [List.mem_replicate] at this
      cases this.2
end Mx

set_option linter.all false
set_option maxRecDepth 100000
set_option maxHeartbeats 4000000
namespace Mx
open PySem PySem.Spec PyProof.Rows L2

/-- a written text's codes -/
def cs (s : String) : List Nat := s.toList.map Char.toNat
theorem cs_str (s : String) : Str.ofString s = ⟨(cs s).toArray⟩ := Str.ofString_eq_toList s
theorem cs_inj {s t : String} : cs s = cs t ↔ s = t := by
  constructor
  · intro h
    unfold cs at h
    have go : ∀ (a b : List Char), a.map Char.toNat = b.map Char.toNat → a = b := by
      intro a
      induction a with
      | nil => intro b h; cases b with
        | nil => rfl
        | cons c r => cases h
      | cons c r ih => intro b h; cases b with
        | nil => cases h
        | cons d q =>
          rw [List.map_cons, List.map_cons] at h
          injection h with h1 h2
          rw [ih q h2, Char.toNat_inj.mp h1]
    exact String.toList_inj.mp (go _ _ h)
  · intro h; rw [h]
/-! ### values of truth -/
def mNotV (a : Ev → M Val) : Ev → M Val := fun env S => (a env S).bind fun x S1 => (truth x S1).bind fun k S2 => .ok (.bl (!k)) S2
def mAndV (a b : Ev → M Val) : Ev → M Val := fun env S => (a env S).bind fun x S1 => (truth x S1).bind fun k S2 => if k = true then b env S2 else .ok x S2
def mOrV (a b : Ev → M Val) : Ev → M Val := fun env S => (a env S).bind fun x S1 => (truth x S1).bind fun k S2 => if k = true then .ok x S2 else b env S2
theorem truth_st {x : Val} {S S' : Sto} {k : Bool} (h : truth x S = .ok k S') : S' = S := by
  cases x with
  | str z =>
    simp only [truth] at h
    split at h
    · cases h; rfl
    · cases h
  | loc n =>
    simp only [truth] at h
    split at h <;> first | (cases h; rfl) | cases h
  | ext a => cases h
  | _ => cases h; rfl
section
variable {X : Cx} {E : XK} {a b c e : Expr} {es : List Expr} {ma mb mc : Ev → M Val} {pos : Pos}
theorem pem_cs {s : String} {j : Nat} {pos : Pos} : PEm X E (.Constant (.str (Str.ofString s)) j pos) (mC (.str (cs s))) := pem_c pe_str fun _ _ => by rw [cs_str]; rfl
theorem pem_gint {x : Str} {i : Int} (h : ∃ t, X.mg x = some (.int i t)) (hg : Gl X x := by rfl) (hd : (x == ("__debug__" : Str)) = false := by decide) : PEm X E (.Name x pos) (mC (.int i)) := by
  obtain ⟨t, h⟩ := h
  exact pem_glob (w := .int i) h ⟨t, rfl⟩ (fun _ _ => rfl) hg hd
theorem pem_gstr {x : Str} {s : String} (h : ∃ t, X.mg x = some (.str (Str.ofString s) t)) (hg : Gl X x := by rfl) (hd : (x == ("__debug__" : Str)) = false := by decide) : PEm X E (.Name x pos) (mC (.str (cs s))) := by
  obtain ⟨t, h⟩ := h
  exact pem_glob (w := .str (Str.ofString s)) h ⟨t, rfl⟩ (fun _ _ => by rw [cs_str]; rfl) hg hd
theorem pem_notV (ha : PEm X E a ma) : PEm X E (.UnaryOp .Not a pos) (mNotV ma) := by
  obtain ⟨t, p, q⟩ := ha.ex
  refine ⟨_, pe_notT p, fun io σ H env S Q er sr h => ?_⟩
  refine q io σ H env S _ er sr (fin_bind h fun x S1 io1 H1 v _ l1 s1 r1 h1 => ?_)
  refine tru_of (Q := fun k H2 => Q (.bl (!k)) H2) s1 r1 (fin_bind h1 fun b S2 io2 H2 b' _ l2 s2 eb h2 => ?_)
  cases (show b = b' from eb)
  exact fin_here h2 s2 rfl
theorem pem_one {op} (h : PEm X E a ma) : PEm X E (.BoolOp op [a] pos) ma := let ⟨t, p, q⟩ := h.ex; ⟨t, pe_one p, q⟩
theorem pem_andV {rest : List Expr} (ha : PEm X E a ma) (hb : PEm X E (.BoolOp .And (b :: rest) pos) mb) : PEm X E (.BoolOp .And (a :: b :: rest) pos) (mAndV ma mb) := by
  obtain ⟨t, p, q⟩ := ha.ex
  obtain ⟨t2, p2, q2⟩ := hb.ex
  refine ⟨_, pe_andT p p2, fun io σ H env S Q er sr h => ?_⟩
  refine q io σ H env S _ er sr (fin_bind h fun x S1 io1 H1 v _ l1 s1 r1 h1 => ?_)
  have hx : ∀ {P : Bool → Hp → Prop}, (∃ k, TruV X.K v H1 k ∧ ∃ H2, H2 = H1 ∧ P k H2) → ∃ k, TruV X.K v H1 k ∧ P k H1 := fun ⟨k, e, H2, e2, p⟩ => ⟨k, e, e2 ▸ p⟩
  cases et : truth x S1 with
  | bad => rw [et] at h1; exact h1.elim
  | err y S2 => exact (by cases x <;> simp only [truth] at et <;> first | cases et | (split at et <;> cases et))
  | ok k S2 =>
    have e := truth_st et
    subst e
    rw [et] at h1
    obtain ⟨k', e1, e2⟩ := tru_of (E := E) (Q := fun k' H2 => k' = k) s1 r1 (by rw [et]; exact fun _ _ b' _ _ eb => (show k = b' from eb).symm)
    subst e2
    refine ⟨_, e1, ?_⟩
    have h1 : FinG X.K (VR X.K) E io1 H1 Q (if k' = true then mb env S2 else .ok x S2) := h1
    cases k' with
    | true => exact iteT (q2 io1 σ H1 env S2 Q (er.mono l1) s1 h1)
    | false => exact iteF (fin_here h1 s1 r1)
theorem pem_orV {rest : List Expr} (ha : PEm X E a ma) (hb : PEm X E (.BoolOp .Or (b :: rest) pos) mb) : PEm X E (.BoolOp .Or (a :: b :: rest) pos) (mOrV ma mb) := by
  obtain ⟨t, p, q⟩ := ha.ex
  obtain ⟨t2, p2, q2⟩ := hb.ex
  refine ⟨_, pe_orT p p2, fun io σ H env S Q er sr h => ?_⟩
  refine q io σ H env S _ er sr (fin_bind h fun x S1 io1 H1 v _ l1 s1 r1 h1 => ?_)
  cases et : truth x S1 with
  | bad => rw [et] at h1; exact h1.elim
  | err y S2 => exact (by cases x <;> simp only [truth] at et <;> first | cases et | (split at et <;> cases et))
  | ok k S2 =>
    have e := truth_st et
    subst e
    rw [et] at h1
    obtain ⟨k', e1, e2⟩ := tru_of (E := E) (Q := fun k' H2 => k' = k) s1 r1 (by rw [et]; exact fun _ _ b' _ _ eb => (show k = b' from eb).symm)
    subst e2
    refine ⟨_, e1, ?_⟩
    have h1 : FinG X.K (VR X.K) E io1 H1 Q (if k' = true then .ok x S2 else mb env S2) := h1
    cases k' with
    | true => exact iteT (fin_here h1 s1 r1)
    | false => exact iteF (q2 io1 σ H1 env S2 Q (er.mono l1) s1 h1)
theorem pem_eqG {α β : Type} {R : Hp → List Addr → Hp → α → V → Prop} {R' : Hp → List Addr → Hp → β → V → Prop} {D : α → Sto → Option PyData} {D' : β → Sto → Option PyData} {ma : Ev → M α} {mb : Ev → M β} {op : CmpOp} {neg : Bool}
    (ho : OpR X (compareOp op) (rEqP X.K neg)) (w : View X.K R D) (w' : View X.K R' D') (ha : PXm X E R a ma) (hb : PXm X E R' b mb) (hm : behindInMarks op b = false) : PEm X E (.Compare a [op] [b] pos) (mBl (mEq neg D D' ma mb)) := by
  obtain ⟨ta, pa, qa⟩ := ha.ex
  obtain ⟨tb, pb, qb⟩ := hb.ex
  refine ⟨_, pe_cmpR ho pa pb hm, fun io σ H env S Q er sr h => ?_⟩
  have h : FinG X.K RB E io H (fun k H' => Q (.bl k) H') (mEq neg D D' ma mb env S) := fin_bind h fun c S1 io1 H1 v _ l s r h1 => by
    cases (show c = v from r)
    exact fin_here h1 s rfl
  refine qa io σ H env S _ er sr (fin_bind h fun x S1 io1 H1 v _ l1 s1 r1 h1 => ?_)
  refine qb io1 σ H1 env S1 _ (er.mono l1) s1 (fin_bind h1 fun y S2 io2 H2 u _ l2 s2 r2 h2 => ?_)
  cases e1 : D x S2 with
  | none => simp only [e1] at h2; exact h2.elim
  | some d =>
    cases e2 : D' y S2 with
    | none => simp only [e1, e2] at h2; exact h2.elim
    | some e =>
      simp only [e1, e2] at h2
      obtain ⟨d1, d2⟩ := w.dp s2 (w.mono l2 r1) e1
      obtain ⟨d3, d4⟩ := w'.dp s2 r2 e2
      by_cases hz : min d.depth e.depth ≤ 64
      · rw [if_pos hz] at h2
        have q := fin_here (R := RB) h2 s2 rfl
        exact ⟨d, e, d1, d3, d2, d4, hz, q⟩
      · rw [if_neg hz] at h2
        exact h2.elim
theorem pem_chn {op op' : CmpOp} {g g' : Val → Val → M Bool} (ho : TsM X E (compareOp op) g) (ho' : TsM X E (compareOp op') g') (ha : PEm X E a ma) (hb : PEm X E b mb) (hc : PEm X E c mc)
    (hm : lastMarks [op, op'] [b, c] = false := by with_unfolding_all rfl) : PEm X E (.Compare a [op, op'] [b, c] pos) (mBl (mChn g g' ma mb mc)) := by
  obtain ⟨ta, pa, qa⟩ := ha.ex
  obtain ⟨tb, pb, qb⟩ := hb.ex
  obtain ⟨tc, pc, qc⟩ := hc.ex
  obtain ⟨r, pr, qr⟩ := ho
  obtain ⟨r', pr', qr'⟩ := ho'
  have wk : OpR X (compareOp op') (fun v w H Q => r' v w H fun z H' => ∃ k, z = .bl k ∧ Q (.bl k) H') := by
    intro pins s σ H x y v u Q I rx ry h
    exact thn (pr' pins s σ H x y v u _ I rx ry h) fun u' s' ⟨z, H', I', rz, k, ez, q⟩ => ⟨z, H', I', rz, by rw [ez]; exact q⟩
  refine ⟨_, pe_chain pr wk pa pb pc hm, fun io σ H env S Q er sr h => ?_⟩
  have h : FinG X.K RB E io H (fun k H' => Q (.bl k) H') (mChn g g' ma mb mc env S) := fin_bind h fun c S1 io1 H1 v _ l s r h1 => by
    cases (show c = v from r)
    exact fin_here h1 s rfl
  refine run2 (g := fun x y S2 => (g x y S2).bind fun k S3 => if k = true then (mc env S3).bind fun z S4 => g' y z S4 else .ok false S3) qa qb er sr h fun io2 H2 S2 x y v w l2 s2 r1 r2 h2 => ?_
  refine qr io2 H2 S2 x y v w _ s2 r1 r2 (fin_bind h2 fun k S3 io3 H3 k' _ l3 s3 e3 h3 => ?_)
  cases (show k = k' from e3)
  cases k with
  | false =>
    have q := fin_here (R := RB) h3 s3 rfl
    exact iteF q
  | true =>
    refine iteT ?_
    refine qc io3 σ H3 env S3 _ (er.mono (l2.trans l3)) s3 (fin_bind h3 fun z S4 io4 H4 u _ l4 s4 r4 h4 => ?_)
    exact qr' io4 H4 S4 y z w u _ s4 (VR.mono (l3.trans l4) _ _ r2) r4 h4
end
section
variable {P : Program} {w : World} {K : PySem.W.Frag} {mg : Str → Option Value} {base : Heap}
/-- THE RULE for a def without exceptions, by the head's facts -/
theorem fn_md {x qual : Str} {st : Stmt} {f : Addr} {fd : FuncData} {N ps : List Str} {k : Nat} {m : SM} (F : FunD K x qual (defArgs st) (defBody st) (defScope st) [] [] f fd) (S : FnScope N ps (defScope st))
    (hb : ∀ (cdv : Value) (A : Around) (outer : List Env) (s : Shared) (H : Hp) (E : XK), Room k (A.deeper (envOfC qual (defScope st) s.heap.objs.size f cdv)) →
      PSsm (cxOf CX0 P w K mg base N qual (defScope st) f cdv A outer s H E).nox E (defBody st) m) : FnOk P w K mg base CX0 (k + 1) f fd ps (spI K (trm (runF ps.length N.length m))) := by
  refine F.ok S (fun vs H Q E h => ?_) (fun cdv A outer s H vs Q E hr h => ?_)
  · obtain ⟨io, St, xs, sr, r, hf⟩ := h
    have hf := trm_ok sr hf
    by_cases hl : xs.length = ps.length
    · rw [r.length, hl]
    · unfold runF at hf
      rw [if_neg hl] at hf
      exact hf.elim
  · obtain ⟨io, St, xs, sr, r, hf⟩ := h
    have hf := trm_ok sr hf
    obtain ⟨t, pt, qt⟩ := (hb cdv A outer s H E hr).ex
    refine ⟨t, PSs.nox pt, ?_⟩
    by_cases hl : xs.length = ps.length
    · unfold runF at hf
      rw [if_pos hl] at hf
      have er : ER K io H (xs.map some ++ List.replicate (N.length - xs.length) none) (L2.start N vs) := er_start r
      refine qt io _ H _ St _ er sr ?_
      cases eo : m (xs.map some ++ List.replicate (N.length - xs.length) none) St with
      | bad => rw [eo] at hf; exact hf
      | err y S1 => rw [eo] at hf; exact hf
      | ok q S1 =>
        rw [eo] at hf
        obtain ⟨fl, env⟩ := q
        cases fl with
        | nx => exact fun io' H' σ' l s' _ => hf io' H' .non l s' rfl
        | rt v => exact fun io' H' v l s' rv => hf io' H' v l s' rv
        | bk => exact hf.elim
        | ct => exact hf.elim
    · unfold runF at hf
      rw [if_neg hl] at hf
      exact hf.elim
/-- at level 0 no def is called -/
theorem fn_m0 {f : Addr} {fd : FuncData} {ps : List Str} : FnOk P w K mg base CX0 0 f fd ps (spI K fun _ _ => .bad) :=
  ⟨fun vs H Q E ⟨_, _, _, _, _, h⟩ => h.elim, fun A outer s H args us vs Q E _ _ _ _ ⟨_, _, _, _, _, h⟩ => h.elim⟩
end
theorem room66 {k : Nat} {A : Around} (r : Room k A) : A.units + 66 < cLine := by have := r.un; omega
end Mx

set_option linter.all false
set_option maxRecDepth 100000
set_option maxHeartbeats 4000000
namespace Mx
open PySem PySem.Spec PyProof.Rows L2
/-- + of numbers, texts, tuples, lists -/
def gPlus (x y : Val) : M Val := fun S => match x, y with
  | .loc n, .loc m => (match S[n]?, S[m]? with
    | some (.lst xs), some (.lst ys) => if xs.length + ys.length ≤ lim then .ok (.loc S.length) (S ++ [.lst (xs ++ ys)]) else .bad
    | _, _ => .bad)
  | x, y => gAdd x y S
theorem opm_plus {X : Cx} {E : XK} : OpM X E (binaryOp .Add) gPlus := by
  obtain ⟨r, pr, q⟩ := opm_add (X := X) (E := E)
  refine ⟨_, OpR.or pr op_cat, fun io H S x y v w Q s rx ry h => ?_⟩
  by_cases hx : ∃ n m, x = .loc n ∧ y = .loc m
  · obtain ⟨n, m, rfl, rfl⟩ := hx
    obtain ⟨p, hi, rfl⟩ := rx
    obtain ⟨p2, hi2, rfl⟩ := ry
    simp only [gPlus] at h
    cases eo : S[n]? with
    | none => simp only [eo] at h; exact h.elim
    | some o =>
      cases eo2 : S[m]? with
      | none => simp only [eo, eo2] at h; exact h.elim
      | some o2 =>
        have q1 := s.is eo hi
        have q2 := s.is eo2 hi2
        cases o with
        | lst xs =>
          cases o2 with
          | lst ys =>
            simp only [eo, eo2] at h
            obtain ⟨vs, hv, k⟩ := q1
            obtain ⟨ws, hw, k'⟩ := q2
            by_cases hz : xs.length + ys.length ≤ lim
            · rw [if_pos hz] at h
              exact .inr ⟨p, p2, vs, ws, rfl, rfl, hv, hw, by rw [k.length, k'.length]; exact lim_le hz, fun t ht => newL_fin s (k.app k') ht h⟩
            · rw [if_neg hz] at h; exact h.elim
          | _ => simp only [eo, eo2] at h; exact h.elim
        | _ => simp only [eo, eo2] at h; exact h.elim
  · have e : gPlus x y S = gAdd x y S := by
      unfold gPlus
      split
      · rename_i n m; exact absurd ⟨n, m, rfl, rfl⟩ hx
      · rfl
    rw [e] at h
    exact .inl (q io H S x y v w Q s rx ry h)
/-- the law's end: it tells True of the script -/
theorem law_end {K : PySem.W.Frag} {g : List Val → M Val} {H : Hp} {a : Addr} {ns : List Int} (h : ∃ S, g [.kl (ns.map Val.int)] [] = .ok (.bl true) S) (hO : Only H) (hS : SqL K H a (ns.map V.int)) :
    spI K g [.ref a] H (fun v _ => v = .bl true) fun _ _ _ => False := by
  obtain ⟨S, h⟩ := h
  have hF : SqF K H a (ns.map V.int) := by
    rcases hS with (hS | ⟨o, hS⟩) | hS
    · rcases hO a with z | ⟨o, xs, z⟩
      · rw [hS] at z; cases z
      · rw [hS] at z; cases z
    · exact .inl ⟨o, hS⟩
    · exact .inr hS
  refine ⟨[], [], [.kl (ns.map Val.int)], ⟨rfl, fun n m a h => by simp at h, fun n a o h => by simp at h⟩, ⟨_, [], rfl, ⟨a, _, rfl, hF, VRs.mapI ns⟩, rfl⟩, ?_⟩
  rw [h]
  intro io' H' v _ _ r
  exact r
end Mx

set_option linter.all false
set_option maxRecDepth 100000
set_option maxHeartbeats 4000000
namespace Mx
open PySem PySem.Spec PyProof.Rows L2
/-! ### a, *b = a tuple -/
section
open PySem.W PySem.Calls
variable {prog : Program} {w : World} {A : Around} {E : Value → Shared → Prop} {s : Shared}
theorem star1 {l : Addr} {x : Value} {xs : List Value} {Q : List Value → Shared → Prop}
    (hl : IsTup s.heap l (x :: xs).toArray) (hh : A.handled = none)
    (hz : xs.length ≤ 10000)
    (h : ∀ (h2 : Heap) (tk : Nat), (∀ b o, s.heap.get? b = some o → h2.get? b = some o) → Q [x, .ref h2.objs.size] { s with heap := h2.push { cls := .type "list", data := .seq xs.toArray }, toks := tk }) :
    wpAny (model prog w) A (unpackItems (.ref l) 2 (some 1)) Q E s := by
  have hsz : (x :: xs).toArray.size = xs.length + 1 := by rw [List.size_toArray, List.length_cons]
  have hlt : l ≠ s.heap.objs.size := by
    obtain ⟨o, ho, _⟩ := hl
    exact Nat.ne_of_lt (Heap.lt_size ho)
  unfold unpackItems
  refine wpAny_bind ?_
  unfold notIterableAtAll
  refine wpAny_bind (wpAny_specialOf hl.typeIs
    slot_tuple_iter.lookup ?_)
  refine wpAny_pure ?_
  simp only [Bool.false_eq_true, if_false]
  refine wpAny_bind (wpAny_holding (iter_tuple hl ?_))
  refine wpAny_bind (wpAny_holding (draw_tuple hlt 1 0 _ _
    ⟨_, Heap.get?_push_size _ rfl, rfl, rfl⟩ (hl.push _) (by rw [hsz]; omega) fun h1 hit hs1 => ?_))
  have hl1 : IsTup h1 l (x :: xs).toArray := (hl.push _).extBut hs1.extBut hlt
  rw [Nat.zero_add] at hit
  have hit' := hit
  obtain ⟨oi, hoi, _⟩ := hit'
  have hl1' := hl1
  obtain ⟨ol, hol, _⟩ := hl1'
  rw [List.drop_zero]
  have hf : ((x :: xs).toArray.toList.take 1) = [x] := rfl
  rw [hf]
  rw [if_neg (show ¬ ([x].length < 1) by simp)]
  refine wpAny_bind (wpAny_holding (kun_collect (s := { s with heap := h1 })
    (T := "tuple_iterator") (.inr (.inr (.inr rfl)))
    (Walks.tuple (A := A.in1) hh s.heap.objs.size l hlt (x :: xs).toArray)
    (fun j u st => st.1.typeIs) (k := 1) (by rw [hsz]; omega) ⟨hit, hl1⟩
    (Heap.lt_size hoi) (Heap.lt_size hol) (fun h2 tk hk => ?_)
    (by rw [hsz, sizeLine_eq]; omega)))
  have hd : (x :: xs).toArray.toList.drop 1 = xs := rfl
  rw [hd]
  show wpAny _ _ (if xs.length < 2 - 1 - 1 then _ else _) _ _ _
  rw [if_neg (by omega)]
  show wpAny _ _ (newList (xs.take (xs.length - (2 - 1 - 1))) >>= fun d => pure ([x] ++ [d] ++ xs.drop (xs.length - (2 - 1 - 1)))) _ _ _
  have e0 : xs.length - (2 - 1 - 1) = xs.length := by omega
  rw [e0, List.take_length, List.drop_length]
  refine wpAny_bind (wpAny_newList (wpAny_pure (h h2 tk fun b o e => ?_)) (by rw [sizeLine_eq]; omega))
  exact hk b o (Nat.ne_of_lt (Heap.lt_size e)) (hs1.extBut b o (Nat.ne_of_lt (Heap.lt_size e)) (Heap.get?_push_of_some _ e))
end
def gStar (K : PySem.W.Frag) (i j : Nat) : TG := fun v σ H Q => ∃ a x xs, v = .ref a ∧ SqT K H a (x :: xs) ∧ xs.length ≤ 10000 ∧ ∀ p, H p = none → Q ((σ.set i (some x)).set j (some (.ref p))) (upd H p (.lst xs))
section
variable {X : Cx} {E : XK}
theorem pg_star {i j k : Nat} {x y : Str} {p1 p2 p3 pos : Pos} (hc : X.calm = true) (nd : X.N.Nodup) (hx : X.N[i]? = some x) (hy : X.N[j]? = some y)
    (lx : Loc X.env.scope x) (ly : Loc X.env.scope y) (fx : X.fn x = true ∨ X.env.scope.names.lookup x = some .local) (fy : X.fn y = true ∨ X.env.scope.names.lookup y = some .local)
    (hn : (assignEach [.Name x p1, .Starred (.Name y p2) p3] X.env).length = 2 := by rfl) (hst : (assignEach [.Name x p1, .Starred (.Name y p2) p3] X.env).findIdx? (·.1) = some 1 := by rfl)
    (hs : (assignEach [.Name x p1, .Starred (.Name y p2) p3] X.env).map (·.2) = [assign (.Name x p1) X.env, assign (.Name y p2) X.env] := by rfl) :
    PG X (.Tuple [.Name x p1, .Starred (.Name y p2) p3] k pos) (gStar X.K i j) := by
  refine ⟨fun pins s σ H v u Q I r hw => ?_⟩
  obtain ⟨a, x1, xs, e1, hq, hl, hw⟩ := hw
  subst e1
  cases r
  obtain ⟨its, rv, ht, hz⟩ := I.tuple hq
  cases rv with
  | cons r1 rr =>
    rw [assign_Tuple]
    refine wpAny_bind (wpAny_standAt ?_)
    unfold unpack
    rw [hn, hst]
    refine wpAny_bind (wpAny_holding (star1 ht (I.ok.hd hc) (by rw [← rr.length]; exact hl) fun h2 tk hk => ?_))
    rw [hs]
    have I1 : Inv X pins σ H { s with heap := h2, toks := tk } := I.kept hk
    have I2 := I1.lnew (t' := tk) rr (by rw [sizeLine_eq]; omega)
    have hw2 := hw _ I1.fresh
    refine PyProof.Rows.assignInOrder_cons (thn ((pg_name nd hx lx fx).run pins _ σ _ _ _ (fun σ' H' => σ' = σ.set i (some x1) ∧ H' = _) I2 r1 ⟨rfl, rfl⟩) fun _ s1 ⟨σ1, H1, I3, e3, e4⟩ => ?_)
    subst e3 e4
    refine PyProof.Rows.assignInOrder_cons (thn ((pg_name nd hy ly fy).run pins _ _ _ (.ref h2.objs.size) _ (fun σ' H' => Q σ' H') I3 rfl hw2) fun _ s2 ⟨σ2, H2, I4, q4⟩ => ?_)
    exact PyProof.Rows.assignInOrder_nil ⟨σ2, H2, I4, q4⟩
end
end Mx

set_option linter.all false
set_option maxRecDepth 100000
set_option maxHeartbeats 4000000
namespace Mx
open PySem PySem.Spec PyProof.Rows L2
theorem tmul_same (l : Addr) (items : Array Value) (n : Nat) (dd : Option Addr)
    (sl : Array (Option Value)) (x : Int) (u : Tok)
    (c0 : (decide (x < -(2 ^ 63)) || decide (x ≥ 2 ^ 63)) = false)
    (c1 : (items.isEmpty || x == 1) = true) :
    Meets (Builtin.«tuple.__mul__» ⟨[.ref l, .int x u], []⟩) (fun _ R s =>
      s.heap.get? l = some { cls := .type "tuple", dict := dd, data := .seq items n, slots := sl } ∧
      R (.ok (.ret (Value.ref l))) s) :=
  .of_wp fun prog w A R s h => by
    obtain ⟨hp, g, d, tk, os⟩ := s
    obtain ⟨hl, h⟩ := h
    have f1 := AutoSeq1.idx_int
    wp_walk using wpAny_loadPart' hl
    repeat (first
      | (refine wpAny_ite_false (decide_eq_false (by rw [c0]; exact Bool.false_ne_true)) ?_
         wp_walk using wpAny_loadPart' hl)
      | (refine wpAny_ite_true (decide_eq_true c1) ?_
         wp_walk using wpAny_loadPart' hl))
    exact ⟨_, rfl, h⟩
theorem tmul_none (l : Addr) (items : Array Value) (n : Nat) (dd : Option Addr)
    (sl : Array (Option Value)) (x : Int) (u : Tok)
    (c0 : (decide (x < -(2 ^ 63)) || decide (x ≥ 2 ^ 63)) = false)
    (c1 : (items.isEmpty || x == 1) = false) (c2 : (decide (x ≤ 0) || items.isEmpty) = true) :
    Meets (Builtin.«tuple.__mul__» ⟨[.ref l, .int x u], []⟩) (fun _ R s =>
      s.heap.get? l = some { cls := .type "tuple", dict := dd, data := .seq items n, slots := sl } ∧
      R (.ok (.ret (Value.ref s.heap.objs.size))) { s with heap := s.heap.push { cls := Value.type "tuple", data := Data.seq #[] }, toks := s.toks }) :=
  .of_wp fun prog w A R s h => by
    obtain ⟨hp, g, d, tk, os⟩ := s
    obtain ⟨hl, h⟩ := h
    have f1 := AutoSeq1.idx_int
    wp_walk using wpAny_loadPart' hl
    repeat (first
      | (refine wpAny_ite_false (decide_eq_false (by rw [c0]; exact Bool.false_ne_true)) ?_
         wp_walk using wpAny_loadPart' hl)
      | (refine wpAny_ite_false (decide_eq_false (by rw [c1]; exact Bool.false_ne_true)) ?_
         wp_walk using wpAny_loadPart' hl)
      | (refine wpAny_ite_true (decide_eq_true c2) ?_
         wp_walk using wpAny_loadPart' hl))
    exact ⟨_, rfl, h⟩
def rTm1 (K : PySem.W.Frag) : R2 := fun x y H Q => ∃ l k xs, x = .ref l ∧ y = .int k ∧ SqT K H l xs ∧ (xs = [] ∨ k = 1) ∧ k.natAbs ≤ 1000 ∧ Q (.ref l) H
def rTm0 (K : PySem.W.Frag) : R2 := fun x y H Q => ∃ l k xs, x = .ref l ∧ y = .int k ∧ SqT K H l xs ∧ xs ≠ [] ∧ k ≤ 0 ∧ k.natAbs ≤ 1000 ∧ ∀ p, H p = none → Q (.ref p) (upd H p (.tup []))
section
variable {X : Cx} {E : XK}
theorem c0_small {k : Int} (h : k.natAbs ≤ 1000) : (decide (k < -(2 ^ 63)) || decide (k ≥ 2 ^ 63)) = false := by
  rw [decide_eq_false (by omega), decide_eq_false (by omega)] <;> rfl
theorem op_tm1 : OpR X (binaryOp .Mult) (rTm1 X.K) := by
  intro pins s σ H x y v u Q I rx ry h
  obtain ⟨l, k, xs, rfl, rfl, hT, hk, hz, q⟩ := h
  cases rx
  obtain ⟨t, rfl⟩ := ry
  obtain ⟨its, r, ⟨⟨cls, dd, data, sl⟩, ho, hc, n, hd⟩, hs⟩ := I.tuple hT
  simp only at hc hd
  subst hc hd
  have c1 : (its.toArray.isEmpty || k == 1) = true := by
    rcases hk with rfl | rfl
    · cases r
      rfl
    · simp
  refine wpAny_binaryOp_repeat_ref (T := "tuple") (U := "int") (by decide) ⟨_, ho, rfl⟩
    (fun s' => typeIs_int s' k t) noFill_tuple_mul F.fills_int_mul F.slot_int_rmul repeat_tuple F.slot_int_index.lookup
    (call_meets F.slot_int_rmul (typeIs_int s k t) F.entry_int_rmul (F.args_int_rmul_2 _ _)
      (int_rmul_tuple k t l its.toArray n dd sl) ⟨ho, rfl, ⟨_, ho, rfl⟩, call_meets F.slot_tuple_mul ⟨_, ho, rfl⟩
        F.entry_tuple_mul (F.args_tuple_mul_2 _ _) (tmul_same l its.toArray n dd sl k t (c0_small hz) c1) ⟨ho, ?_⟩⟩)
  exact ⟨.ref l, H, I, rfl, q⟩
theorem op_tm0 : OpR X (binaryOp .Mult) (rTm0 X.K) := by
  intro pins s σ H x y v u Q I rx ry h
  obtain ⟨l, k, xs, rfl, rfl, hT, hne, hk, hz, q⟩ := h
  cases rx
  obtain ⟨t, rfl⟩ := ry
  obtain ⟨its, r, ⟨⟨cls, dd, data, sl⟩, ho, hc, n, hd⟩, hs⟩ := I.tuple hT
  simp only at hc hd
  subst hc hd
  have hi : its.toArray.isEmpty = false := by
    cases r with
    | nil => exact absurd rfl hne
    | cons _ _ => rfl
  have c1 : (its.toArray.isEmpty || k == 1) = false := by
    rw [hi, Bool.false_or]
    exact beq_eq_false_iff_ne.mpr (by omega)
  have c2 : (decide (k ≤ 0) || its.toArray.isEmpty) = true := by rw [decide_eq_true hk] <;> rfl
  refine wpAny_binaryOp_repeat_ref (T := "tuple") (U := "int") (by decide) ⟨_, ho, rfl⟩
    (fun s' => typeIs_int s' k t) noFill_tuple_mul F.fills_int_mul F.slot_int_rmul repeat_tuple F.slot_int_index.lookup
    (call_meets F.slot_int_rmul (typeIs_int s k t) F.entry_int_rmul (F.args_int_rmul_2 _ _)
      (int_rmul_tuple k t l its.toArray n dd sl) ⟨ho, rfl, ⟨_, ho, rfl⟩, call_meets F.slot_tuple_mul ⟨_, ho, rfl⟩
        F.entry_tuple_mul (F.args_tuple_mul_2 _ _) (tmul_none l its.toArray n dd sl k t (c0_small hz) c1 c2) ⟨ho, ?_⟩⟩)
  refine ⟨.ref s.heap.objs.size, _, I.laid (t' := s.toks) (o := .tup []) (fun b ob e => Heap.get?_push_of_some _ e) (Nat.le_refl _) ?_, rfl, q _ (I.hok.fresh (Nat.le_refl _))⟩
  exact ⟨Nat.zero_le _, [], .nil, IsTup.new _ _⟩
/-- * of numbers, texts, tuples, lists -/
def gTimes (x y : Val) : M Val := fun S => match x, y with
  | .tup xs, .int k => if k.natAbs ≤ 1000 ∧ xs.length ≤ 1000 then .ok (.tup (List.replicate k.toNat xs).flatten) S else .bad
  | .loc n, .int k => (match S[n]? with
    | some (.lst xs) => if k.natAbs ≤ lim ∧ xs.length * k.toNat ≤ lim then .ok (.loc S.length) (S ++ [.lst (List.replicate k.toNat xs).flatten]) else .bad
    | _ => .bad)
  | x, y => gMul x y S
theorem VRs.rep {K : PySem.W.Frag} {io : List Addr} {H : Hp} {xs : List Val} {vs : List V} (h : VRs K io H xs vs) : ∀ n : Nat, VRs K io H (List.replicate n xs).flatten (List.replicate n vs).flatten
  | 0 => rfl
  | n + 1 => by
    rw [List.replicate_succ, List.replicate_succ, List.flatten_cons, List.flatten_cons]
    exact h.app (VRs.rep h n)
theorem opm_times : OpM X E (binaryOp .Mult) gTimes := by
  obtain ⟨r, pr, q⟩ := opm_mul (X := X) (E := E)
  refine ⟨_, OpR.or pr (OpR.or op_rep (OpR.or op_repT (OpR.or op_tm1 op_tm0))), fun io H S x y v w Q s rx ry h => ?_⟩
  by_cases hx : ∃ xs k, x = .tup xs ∧ y = .int k
  · obtain ⟨xs, k, rfl, rfl⟩ := hx
    obtain ⟨p, vs, rfl, hT, kk⟩ := rx
    cases (show w = .int k from ry)
    simp only [gTimes] at h
    by_cases hz : k.natAbs ≤ 1000 ∧ xs.length ≤ 1000
    · rw [if_pos hz] at h
      by_cases h1 : vs = [] ∨ k = 1
      · refine .inr (.inr (.inr (.inl ⟨p, k, vs, rfl, rfl, hT, h1, hz.1, ?_⟩)))
        refine fin_here h s ⟨p, vs, rfl, hT, ?_⟩
        rcases h1 with e | e
        · subst e
          have e2 : xs = [] := List.length_eq_zero_iff.mp kk.length.symm
          subst e2
          have : (List.replicate k.toNat ([] : List Val)).flatten = [] := by simp
          rw [this]
          rfl
        · subst e
          have : (List.replicate (1 : Int).toNat xs).flatten = xs := by simp
          rw [this]
          exact kk
      · by_cases h2 : k ≤ 0
        · refine .inr (.inr (.inr (.inr ⟨p, k, vs, rfl, rfl, hT, fun e => h1 (.inl e), h2, hz.1, fun t ht => ?_⟩)))
          have e0 : k.toNat = 0 := by omega
          rw [e0] at h
          exact fin_ok h (Le.new ht) (s.new ht) ⟨t, [], rfl, .inl (.inl upd_same), rfl⟩
        · refine .inr (.inr (.inl ⟨p, k, vs, rfl, rfl, hT, fun e => h1 (.inl e), ?_, by omega, by rw [kk.length]; exact hz.2, fun t ht => ?_⟩))
          · have : k ≠ 1 := fun e => h1 (.inr e)
            omega
          · exact fin_ok h (Le.new ht) (s.new ht) ⟨t, _, rfl, .inl (.inl upd_same), (VRs.mono (Le.new ht) _ _ kk).rep _⟩
    · rw [if_neg hz] at h; exact h.elim
  · by_cases hy : ∃ n k, x = .loc n ∧ y = .int k
    · obtain ⟨n, k, rfl, rfl⟩ := hy
      obtain ⟨p, hi, rfl⟩ := rx
      cases (show w = .int k from ry)
      simp only [gTimes] at h
      cases eo : S[n]? with
      | none => simp only [eo] at h; exact h.elim
      | some o =>
        have q1 := s.is eo hi
        cases o with
        | lst xs =>
          simp only [eo] at h
          obtain ⟨vs, hv, kk⟩ := q1
          by_cases hz : k.natAbs ≤ lim ∧ xs.length * k.toNat ≤ lim
          · rw [if_pos hz] at h
            have hl : lim = 100000 := rfl
            exact .inr (.inl ⟨p, k, vs, rfl, rfl, hv, by omega, by omega, by rw [kk.length]; exact lim_le hz.2, fun t ht => newL_fin s (kk.rep _) ht h⟩)
          · rw [if_neg hz] at h; exact h.elim
        | _ => first | exact h.elim | (simp only [eo] at h; first | exact h.elim | cases h) | (dsimp only at h; exact h.elim) | cases h
    · have e : gTimes x y S = gMul x y S := by
        unfold gTimes
        split
        · rename_i xs k; exact absurd ⟨xs, k, rfl, rfl⟩ hx
        · rename_i n k; exact absurd ⟨n, k, rfl, rfl⟩ hy
        · rfl
      rw [e] at h
      exact .inl (q io H S x y v w Q s rx ry h)
end
end Mx

set_option linter.all false
set_option maxRecDepth 100000
set_option maxHeartbeats 4000000
namespace Mx
open PySem PySem.Spec PyProof.Rows L2
/-! ### methods of a list with one argument, as values -/
def MeM (X : Cx) (E : XK) (id : String) (g : Nat → Val → M Val) : Prop :=
  ∃ r, MtR X id r ∧ ∀ io H S n a x w Q, SR X.K io H S → io[n]? = some a → VR X.K io H x w → FinG X.K (VR X.K) E io H Q (g n x S) → r (.ref a) [w] H Q
def mMe (g : Nat → Val → M Val) (o e : Ev → M Val) : Ev → M Val := fun env S => (o env S).bind fun l S1 => match l with
  | .loc n => (match S1[n]? with
    | some (.lst _) => (e env S1).bind fun x S2 => g n x S2
    | _ => .bad)
  | _ => .bad
section
variable {X : Cx} {E : XK} {o e : Expr} {mo me : Ev → M Val} {p : Pos}
theorem pem_me {name : Str} {id : String} {g : Nat → Val → M Val} {apos : Pos} (hm : MeM X E id g) (slot : Slot "list" name id) (hty : typeOf (.builtin id) = pure (.type "method_descriptor")) (ho : PEm X E o mo) (he : PEm X E e me) (hbase : attributeBase o name X.env (eval o X.env) = eval o X.env := by rfl)
    (hfew : ((backTo p (starEach [e] X.env)).all (fun x => !x.1) && (backToKw p (keywordEach [] X.env)).all (fun x => x.1.isSome)
      && decide (([e] : List Expr).length + ([] : List Keyword).length + (if ([] : List Keyword).isEmpty then 0 else 1) < 30)) = true := by rfl)
    (hline : (apos.endLine == p.line) = true := by rfl) (hs : starEach [e] X.env = (false, eval e X.env) :: starEach [] X.env := by rfl) (hplain : (backTo p (starEach [] X.env)).any (·.1) = false := by rfl) :
    PEm X E (.Call (.Attribute o name apos) [e] [] p) (mMe g mo me) := by
  obtain ⟨to, po, qo⟩ := ho.ex
  obtain ⟨te, pe, qe⟩ := he.ex
  obtain ⟨r, pr, qr⟩ := hm
  refine ⟨_, pe_bm PySem.F.plainAttrs_list slot hty pr po (pa_cons pe pa_nil hs) hbase hfew hline hs hplain, fun io σ H env S Q er sr h => ?_⟩
  refine qo io σ H env S _ er sr (fin_bind h fun l S1 io1 H1 v _ l1 s1 r1 h1 => ?_)
  cases l with
  | loc n =>
    obtain ⟨q, hi, rfl⟩ := r1
    simp only at h1
    cases eo : S1[n]? with
    | none => simp only [eo] at h1; exact h1.elim
    | some ob =>
      cases ob with
      | lst xs0 =>
        simp only [eo] at h1
        obtain ⟨vs0, hv0, _⟩ := s1.is eo hi
        refine ⟨.inl ⟨rfl, _, SqL.of hv0⟩, ?_⟩
        refine qe io1 σ H1 env S1 _ (er.mono l1) s1 (fin_bind h1 fun y S2 io2 H2 w _ l2 s2 r2 h2 => ?_)
        exact qr io2 H2 S2 n q y w Q s2 (l2.ia n q hi) r2 h2
      | _ => first | exact h1.elim | (simp only [eo] at h1; first | exact h1.elim | cases h1) | (dsimp only at h1; exact h1.elim) | cases h1
  | _ => exact h1.elim
/-- xs.pop(i) -/
def gPopAt (n : Nat) (x : Val) : M Val := fun S => match x, S[n]? with
  | .int i, some (.lst xs) => if i.natAbs ≤ lim then (match ixN xs.length i with
    | some k => (match xs[k]? with | some y => .ok y (S.set n (.lst (xs.eraseIdx k))) | none => .bad)
    | none => .bad) else .bad
  | _, _ => .bad
theorem VRs.erase {K : PySem.W.Frag} {io : List Addr} {H : Hp} : ∀ {xs : List Val} {vs : List V} (k : Nat), VRs K io H xs vs → VRs K io H (xs.eraseIdx k) (vs.eraseIdx k)
  | [], _, _, h => by cases h; rfl
  | x :: xs, _, 0, ⟨v, ws, e, h, r⟩ => by subst e; exact r
  | x :: xs, _, k + 1, ⟨v, ws, e, h, r⟩ => by subst e; exact ⟨v, _, rfl, h, VRs.erase k r⟩
theorem mem_popAt : MeM X E "list.pop" gPopAt := by
  refine ⟨_, mt_popAt, fun io H S n a x w Q s hi r h => ?_⟩
  unfold gPopAt at h
  cases x with
  | int i =>
    cases (show w = .int i from r)
    cases eo : S[n]? with
    | none => simp only [eo] at h; exact h.elim
    | some ob =>
      cases ob with
      | lst xs =>
        simp only [eo] at h
        obtain ⟨vs, hv, kk⟩ := s.is eo hi
        by_cases hz : i.natAbs ≤ lim
        · rw [if_pos hz] at h
          have hl : lim = 100000 := rfl
          cases ek : ixN xs.length i with
          | none => simp only [ek] at h; exact h.elim
          | some k =>
            cases ex : xs[k]? with
            | none => simp only [ek, ex] at h; exact h.elim
            | some y =>
              simp only [ek, ex] at h
              obtain ⟨v, hv2, ry⟩ := kk.get ex
              have L : Le X.K io H io (upd H a (.lst (vs.eraseIdx k))) := Le.mut hv hi
              exact ⟨a, vs, i, k, v, rfl, rfl, hv, by omega, by omega, by rw [kk.length]; exact (ixN_seq ek).1, hv2, fin_ok h L (s.upd hi eo hv (kk.erase k)) (VR.mono L _ _ ry)⟩
        · rw [if_neg hz] at h; exact h.elim
      | _ => first | exact h.elim | (simp only [eo] at h; first | exact h.elim | cases h) | (dsimp only at h; exact h.elim) | cases h
  | _ => cases eo : S[n]? <;> simp only [eo] at h <;> exact h.elim
/-! ### xs.remove(a text) -/
theorem strs_at : ∀ {us : List Value} {zs : List Str}, Vals (zs.map V.str) us → ∀ (i : Nat) (u : Value), us[i]? = some u → ∃ z t, zs[i]? = some z ∧ u = .str z t
  | _, [], .nil, i, u, h => by simp at h
  | _, z :: zs, .cons r rr, 0, u, h => by
    obtain ⟨t, rfl⟩ := r
    simp at h
    exact ⟨z, t, rfl, h.symm⟩
  | _, z :: zs, .cons r rr, i + 1, u, h => by
    have h2 := strs_at rr i u (by simpa using h)
    simpa using h2
def eqS (k : Str) (v : Value) : Bool := match v with
  | .str n _ => n.cps.toList == k.cps.toList
  | _ => false
def rRemS : V → List V → Hp → VK → Prop := fun x xs H Q => ∃ (l : Addr) (zs : List Str) (k : Str) (j : Nat), x = .ref l ∧ xs = [.str k] ∧ H l = some (.lst (zs.map V.str)) ∧
  (∃ z, zs[j]? = some z ∧ z.cps.toList = k.cps.toList) ∧ (∀ m : Nat, m < j → ∀ z, zs[m]? = some z → z.cps.toList ≠ k.cps.toList) ∧ Q .non (upd H l (.lst ((zs.map V.str).eraseIdx j)))
theorem mt_removeS : MtM X "list.remove" rRemS := by
  intro pins s σ H x xs v us Q I rx rxs h
  obtain ⟨l, zs, k, j, rfl, rfl, hH, ⟨zj, hj, hjz⟩, hno, q⟩ := h
  cases rx
  obtain ⟨u, rfl, ru⟩ := rxs.one
  obtain ⟨t, rfl⟩ := ru
  obtain ⟨z, its, n, r, hl, e⟩ := I.lstM hH
  have hi := strs_at r
  rw [List.length_map] at hl z
  have hjn : j < zs.length := (List.getElem?_eq_some_iff.mp hj).1
  have hjl : j < its.toArray.size := by rw [List.size_toArray]; omega
  refine call_meets PySem.F.slot_list_remove ⟨_, e, rfl⟩ PySem.F.entry_list_remove
    (PySem.F.args_list_remove_2 _ _) (MeetsSeq.list_remove l its.toArray n (.str k t) (eqS k)
      (fun y hy => ?_) j hjl ?_ ?_ (by rw [List.size_toArray]; omega)) ⟨e, ?_⟩
  · obtain ⟨i, hi2, e2⟩ := List.getElem_of_mem (by simpa using hy : y ∈ its)
    obtain ⟨z, t2, _, rfl⟩ := hi i y (by rw [List.getElem?_eq_getElem hi2, e2])
    exact PySem.SeqRoads2.EqGives.str z k t2 t
  · have hb : j < its.length := by omega
    obtain ⟨z, t2, h1, h2⟩ := hi j _ (List.getElem?_eq_getElem hb)
    rw [hj] at h1
    cases h1
    have e1 : its.toArray[j] = .str zj t2 := by simpa using h2
    rw [e1]
    show (zj.cps.toList == k.cps.toList) = true
    rw [hjz]
    exact beq_self_eq_true _
  · intro m hm hmj
    have hb : m < its.length := by omega
    obtain ⟨z, t2, h1, h2⟩ := hi m _ (List.getElem?_eq_getElem hb)
    have e1 : its.toArray[m] = .str z t2 := by simpa using h2
    rw [e1]
    exact beq_eq_false_iff_ne.mpr (hno m hmj z h1)
  · have rr := r.eraseIdx j
    refine ⟨.non, _, I.lset (its' := its.eraseIdx j) (t' := s.toks) hH e ?_ rr ?_, rfl, q⟩
    · show its.toArray.eraseIdxIfInBounds j = (its.eraseIdx j).toArray
      rw [List.eraseIdxIfInBounds_toArray]
    · rw [List.length_eraseIdx, List.length_map]
      split <;> omega
def gRemove (n : Nat) (x : Val) : M Val := fun S => match x, S[n]? with
  | .str k, some (.lst xs) => (match asStrs xs with
    | some zs => (match zs.findIdx? (· == k) with
      | some j => .ok .non (S.set n (.lst (xs.eraseIdx j)))
      | none => .bad)
    | none => .bad)
  | _, _ => .bad
theorem mem_remove : MeM X E "list.remove" gRemove := by
  refine ⟨_, mt_removeS, fun io H S n a x w Q s hi r h => ?_⟩
  unfold gRemove at h
  cases x with
  | str k =>
    cases (show w = .str _ from r)
    cases eo : S[n]? with
    | none => simp only [eo] at h; exact h.elim
    | some ob =>
      cases ob with
      | lst xs =>
        simp only [eo] at h
        obtain ⟨vs, hv, kk⟩ := s.is eo hi
        cases ez : asStrs xs with
        | none => simp only [ez] at h; exact h.elim
        | some zs =>
          cases ek : zs.findIdx? (· == k) with
          | none => simp only [ez, ek] at h; exact h.elim
          | some j =>
            simp only [ez, ek] at h
            have ev : vs = (zs.map fun z => (⟨z.toArray⟩ : Str)).map V.str := by
              have k2 := kk
              rw [asStrs_eq ez] at k2
              rw [List.map_map]
              exact k2.strs
            subst ev
            obtain ⟨hj, hp, hq⟩ := List.findIdx?_eq_some_iff_getElem.mp ek
            have L : Le X.K io H io (upd H a (.lst (((zs.map fun z => (⟨z.toArray⟩ : Str)).map V.str).eraseIdx j))) := Le.mut hv hi
            refine ⟨a, zs.map fun z => ⟨z.toArray⟩, ⟨k.toArray⟩, j, rfl, rfl, hv, ⟨⟨zs[j].toArray⟩, by rw [List.getElem?_map, List.getElem?_eq_getElem hj]; rfl, ?_⟩, fun m hm z hz e => ?_, fin_ok h L (s.upd hi eo hv (kk.erase j)) rfl⟩
            · have := eq_of_beq hp
              rw [this]
            · have hml : m < zs.length := by omega
              rw [List.getElem?_map, List.getElem?_eq_getElem hml] at hz
              cases hz
              have := hq m hm
              apply this
              exact beq_iff_eq.mpr e
      | _ => first | exact h.elim | (simp only [eo] at h; first | exact h.elim | cases h) | (dsimp only at h; exact h.elim) | cases h
  | _ => cases eo : S[n]? <;> simp only [eo] at h <;> exact h.elim
/-! ### min, max of two numbers -/
def gMin : Val → Val → M Val
  | .int i, .int j, S => .ok (.int (if j < i then j else i)) S
  | _, _, _ => .bad
def gMax : Val → Val → M Val
  | .int i, .int j, S => .ok (.int (if j > i then j else i)) S
  | _, _, _ => .bad
def Un2 (X : Cx) (E : XK) (f : Value) (g : Val → Val → M Val) : Prop :=
  ∃ r, CallR X f r ∧ ∀ io H S x y v w Q, SR X.K io H S → VR X.K io H x v → VR X.K io H y w → FinG X.K (VR X.K) E io H Q (g x y S) → r [v, w] H Q
theorem un2_min (hc : X.calm = true) : Un2 X E (.builtin "min") gMin := by
  refine ⟨_, call_min2 hc, fun io H S x y v w Q s rx ry h => ?_⟩
  cases x with
  | int i =>
    cases y with
    | int j =>
      cases (show v = .int i from rx)
      cases (show w = .int j from ry)
      exact ⟨i, j, rfl, fin_here h s rfl⟩
    | _ => exact h.elim
  | _ => exact h.elim
theorem un2_max (hc : X.calm = true) : Un2 X E (.builtin "max") gMax := by
  refine ⟨_, call_max2 hc, fun io H S x y v w Q s rx ry h => ?_⟩
  cases x with
  | int i =>
    cases y with
    | int j =>
      cases (show v = .int i from rx)
      cases (show w = .int j from ry)
      exact ⟨i, j, rfl, fin_here h s rfl⟩
    | _ => exact h.elim
  | _ => exact h.elim
theorem pem_b2 {a b : Expr} {ma mb : Ev → M Val} {x : Str} {id : String} {pos : Pos} {g : Val → Val → M Val} (ho : Un2 X E (.builtin id) g) (hm : X.mg x = none) (ha : PEm X E a ma) (hb : PEm X E b mb) (hv : bootBuiltins x = some (.builtin id) := by decide +kernel) (hg : Gl X x := by rfl) (hn : x ≠ "__name__" := by decide) (hdb : (x == ("__debug__" : Str)) = false := by decide)
    (he : starEach [a, b] X.env = (false, eval a X.env) :: starEach [b] X.env := by rfl) (he2 : starEach [b] X.env = (false, eval b X.env) :: starEach [] X.env := by rfl) (hpl : (backTo pos (starEach [b] X.env)).any (·.1) = false := by rfl) : PEm X E (.Call (.Name x p) [a, b] [] pos) (mOp g ma mb) := by
  obtain ⟨ta, pa, qa⟩ := ha.ex
  obtain ⟨tb, pb, qb⟩ := hb.ex
  obtain ⟨r, pr, qr⟩ := ho
  refine ⟨_, pe_callB pr hg hm hv (pa_cons pa (pa_cons pb pa_nil he2) he) hn hdb he hpl, fun io σ H env S Q er sr h => ?_⟩
  refine qa io σ H env S _ er sr (fin_bind h fun x S1 io1 H1 v _ l1 s1 r1 h1 => ?_)
  exact qb io1 σ H1 env S1 _ (er.mono l1) s1 (fin_bind h1 fun y S2 io2 H2 w _ l2 s2 r2 h2 => qr io2 H2 S2 x y v w Q s2 (VR.mono l2 _ _ r1) r2 h2)
/-! ### zip of two tuples, of two lists -/
def mZip (a b : Ev → M Val) : Ev → M Src := fun env S => (a env S).bind fun x S1 => (b env S1).bind fun y S2 => match x, y with
  | .tup xs, .tup ys => .ok (.vals (zipV xs ys)) S2
  | .loc n, .loc m => (match S2[n]?, S2[m]? with
    | some (.lst xs), some (.lst ys) => .ok (.pair n m (min xs.length ys.length)) S2
    | _, _ => .bad)
  | _, _ => .bad
theorem zipV_at {xs ys : List Val} {i : Nat} {x : Val} (e : (zipV xs ys)[i]? = some x) : ∃ x1 y1, xs[i]? = some x1 ∧ ys[i]? = some y1 ∧ x = .tup [x1, y1] := by
  unfold zipV at e
  rw [List.getElem?_zipWith] at e
  cases e1 : xs[i]? with
  | none => rw [e1] at e; cases e
  | some x1 =>
    cases e2 : ys[i]? with
    | none => rw [e1, e2] at e; cases e
    | some y1 =>
      rw [e1, e2] at e
      cases e
      exact ⟨x1, y1, rfl, rfl, rfl⟩
theorem pim_zip {a b : Expr} {ma mb : Ev → M Val} {elts : List Expr} {kk : Nat} {tpos pos : Pos} (hm : X.mg "zip" = none) (ha : PEm X E a ma) (hb : PEm X E b mb) (hg : Gl X "zip" := by rfl)
    (hs2 : starEach [b] X.env = (false, eval b X.env) :: starEach [] X.env := by rfl)
    (hs : starEach [a, b] X.env = (false, eval a X.env) :: starEach [b] X.env := by rfl) (hpl : (backTo pos (starEach [b] X.env)).any (·.1) = false := by rfl) :
    PIm X E (.Tuple elts kk tpos) (.Call (.Name "zip" p) [a, b] [] pos) (mZip ma mb) := by
  obtain ⟨ta, pa, qa⟩ := ha.ex
  obtain ⟨tb, pb, qb⟩ := hb.ex
  refine ⟨_, RZ.pi_zipA hg hm (pa_cons pa (pa_cons pb pa_nil hs2) hs) hs hpl, fun io σ H env S R er sr h => ?_⟩
  refine qa io σ H env S _ er sr (fin_bind h fun x S1 io1 H1 v _ l1 s1 r1 h1 => ?_)
  refine qb io1 σ H1 env S1 _ (er.mono l1) s1 (fin_bind h1 fun y S2 io2 H2 w _ l2 s2 r2 h2 => ?_)
  cases x with
  | tup xs =>
    cases y with
    | tup ys =>
      obtain ⟨q, vs, rfl, hq, k⟩ := VR.mono l2 _ _ r1
      obtain ⟨q2, ws, rfl, hq2, k2⟩ := r2
      refine ⟨q, q2, vs, ws, rfl, .inr ⟨hq, hq2, h2 io2 H2 _ Le.refl s2 ⟨fun io' H' S i x l s e => ?_, fun io' H' S l s e => ?_⟩⟩⟩
      · have e : (zipV xs ys)[i]? = some x := e
        unfold zipV at e
        rw [List.getElem?_zipWith] at e
        cases e1 : xs[i]? with
        | none => rw [e1] at e; cases e
        | some x1 =>
          cases e2 : ys[i]? with
          | none => rw [e1, e2] at e; cases e
          | some y1 =>
            rw [e1, e2] at e
            cases e
            obtain ⟨v1, hv1, rv1⟩ := (VRs.monoW l _ _ k).get e1
            obtain ⟨w1, hw1, rw1⟩ := (VRs.monoW l _ _ k2).get e2
            refine ⟨⟨vs, ws, v1, w1, l.tu _ _ hq, l.tu _ _ hq2, hv1, hw1⟩, fun y H'' hy => ?_⟩
            obtain ⟨T, a1, b1, rfl, hT, rfl, f1, f2⟩ := hy
            have g1 := f1 vs (l.tu _ _ hq)
            have g2 := f2 ws (l.tu _ _ hq2)
            rw [hv1] at g1
            rw [hw1] at g2
            cases g1
            cases g2
            exact ⟨Le.new hT, s.new hT, T, [v1, w1], rfl, .inl (.inl upd_same), v1, [w1], rfl, VR.mono (Le.new hT) _ _ rv1, w1, [], rfl, VR.mono (Le.new hT) _ _ rw1, rfl⟩
      · refine ⟨vs, ws, l.tu _ _ hq, l.tu _ _ hq2, ?_⟩
        show vs.length ≤ (zipV xs ys).length ∨ ws.length ≤ (zipV xs ys).length
        unfold zipV
        rw [List.length_zipWith, k.length, k2.length]
        omega
    | _ => exact h2.elim
  | loc n =>
    cases y with
    | loc m =>
      obtain ⟨p, hp, rfl⟩ := VR.mono l2 _ _ r1
      obtain ⟨p2, hp2, rfl⟩ := r2
      simp only at h2
      cases en : S2[n]? with
      | none => simp only [en] at h2; exact h2.elim
      | some on =>
        cases em : S2[m]? with
        | none => cases on <;> simp only [en, em] at h2 <;> exact h2.elim
        | some om =>
          cases on with
          | lst xs0 =>
            cases om with
            | lst ys0 =>
              simp only [en, em] at h2
              obtain ⟨vs0, hv0, k0⟩ := s2.is en hp
              obtain ⟨ws0, hw0, j0⟩ := s2.is em hp2
              refine ⟨p, p2, vs0, ws0, rfl, .inl ⟨SqL.of hv0, SqL.of hw0, h2 io2 H2 _ Le.refl s2 ⟨fun io' H' S i x l s e => ?_, fun io' H' S l s e => ?_⟩⟩⟩
              · have hpi := l.ia n p hp
                have hpi2 := l.ia m p2 hp2
                simp only [Src.item] at e
                cases en' : S[n]? with
                | none => simp only [en'] at e; cases e
                | some on' =>
                  cases em' : S[m]? with
                  | none => cases on' <;> simp only [en', em'] at e <;> cases e
                  | some om' =>
                    cases on' with
                    | lst xs =>
                      cases om' with
                      | lst ys =>
                        simp only [en', em'] at e
                        split at e
                        · obtain ⟨x1, y1, e1, e2, rfl⟩ := zipV_at e
                          obtain ⟨vs, hv, kv⟩ := s.is en' hpi
                          obtain ⟨ws, hw, jw⟩ := s.is em' hpi2
                          obtain ⟨v1, hv1, rv1⟩ := kv.get e1
                          obtain ⟨w1, hw1, rw1⟩ := jw.get e2
                          refine ⟨⟨vs, ws, v1, w1, SqL.of hv, SqL.of hw, hv1, hw1⟩, fun y H'' hy => ?_⟩
                          obtain ⟨T, a1, b1, rfl, hT, rfl, f1, f2⟩ := hy
                          have g1 := f1 vs (SqL.of hv)
                          have g2 := f2 ws (SqL.of hw)
                          rw [hv1] at g1
                          rw [hw1] at g2
                          cases g1
                          cases g2
                          exact ⟨Le.new hT, s.new hT, T, [v1, w1], rfl, .inl (.inl upd_same), v1, [w1], rfl, VR.mono (Le.new hT) _ _ rv1, w1, [], rfl, VR.mono (Le.new hT) _ _ rw1, rfl⟩
                        · cases e
                      | _ => simp only [en', em'] at e; cases e
                    | _ => simp only [en', em'] at e; cases e
              · have hpi := l.ia n p hp
                have hpi2 := l.ia m p2 hp2
                simp only [Src.fin] at e
                cases en' : S[n]? with
                | none => simp only [en'] at e; cases e
                | some on' =>
                  cases em' : S[m]? with
                  | none => cases on' <;> simp only [en', em'] at e <;> cases e
                  | some om' =>
                    cases on' with
                    | lst xs =>
                      cases om' with
                      | lst ys =>
                        simp only [en', em'] at e
                        have e := eq_of_beq e
                        obtain ⟨vs, hv, kv⟩ := s.is en' hpi
                        obtain ⟨ws, hw, jw⟩ := s.is em' hpi2
                        refine ⟨vs, ws, SqL.of hv, SqL.of hw, ?_⟩
                        show vs.length ≤ min xs0.length ys0.length ∨ ws.length ≤ min xs0.length ys0.length
                        rw [kv.length, jw.length]
                        omega
                      | _ => simp only [en', em'] at e; cases e
                    | _ => simp only [en', em'] at e; cases e
            | _ => first | exact h2.elim | (simp only [en, em] at h2; first | exact h2.elim | cases h2)
          | _ => first | exact h2.elim | (simp only [en, em] at h2; first | exact h2.elim | cases h2)
    | _ => exact h2.elim
  | _ => exact h2.elim
/-! ### a, *b = .. -/
def sStar (i j : Nat) (e : Ev → M Val) : SM := fun env S => (e env S).bind fun x S1 => match x with
  | .tup (x :: xs) => if xs.length ≤ 10000 then .ok (.nx, (env.set i (some x)).set j (some (.loc S1.length))) (S1 ++ [.lst xs]) else .bad
  | _ => .bad
theorem psm_star {i j k : Nat} {x y : Str} {p1 p2 p3 pos spos : Pos} (nd : X.N.Nodup) (he : PEm X E e me) (hc : X.calm = true := by rfl) (hx : X.N[i]? = some x := by rfl) (hy : X.N[j]? = some y := by rfl)
    (lx : Loc X.env.scope x := by first | exact Or.inl rfl | exact Or.inr rfl) (ly : Loc X.env.scope y := by first | exact Or.inl rfl | exact Or.inr rfl)
    (fx : X.fn x = true ∨ X.env.scope.names.lookup x = some .local := by first | exact .inl rfl | exact .inr rfl) (fy : X.fn y = true ∨ X.env.scope.names.lookup y = some .local := by first | exact .inl rfl | exact .inr rfl)
    (hn : (assignEach [.Name x p1, .Starred (.Name y p2) p3] X.env).length = 2 := by rfl) (hst : (assignEach [.Name x p1, .Starred (.Name y p2) p3] X.env).findIdx? (·.1) = some 1 := by rfl)
    (hs2 : (assignEach [.Name x p1, .Starred (.Name y p2) p3] X.env).map (·.2) = [assign (.Name x p1) X.env, assign (.Name y p2) X.env] := by rfl)
    (hs : swapsWithSole [.Tuple [.Name x p1, .Starred (.Name y p2) p3] k pos] e spos.line X.env = pure false := by rfl) (hw : swappedStores [.Tuple [.Name x p1, .Starred (.Name y p2) p3] k pos] e X.env = pure none := by rfl)
    (h1 : (assignEach [.Tuple [.Name x p1, .Starred (.Name y p2) p3] k pos] X.env).map (·.2) = [assign (.Tuple [.Name x p1, .Starred (.Name y p2) p3] k pos) X.env] := by rfl) :
    PSm X E (.Assign [.Tuple [.Name x p1, .Starred (.Name y p2) p3] k pos] e spos) (sStar i j me) := by
  obtain ⟨te, pe, qe⟩ := he.ex
  refine ⟨_, ps_asg pe (pg_star hc nd hx hy lx ly fx fy hn hst hs2) hs hw h1, fun io σ H env S D er sr h => ?_⟩
  refine qe io σ H env S _ er sr (fis_bind h fun x S1 io1 H1 v _ l1 s1 r1 h1 => ?_)
  cases x with
  | tup xs =>
    cases xs with
    | nil => exact h1.elim
    | cons x xs =>
      obtain ⟨q, vs, rfl, hq, v1, ws, rfl, r1, k⟩ := r1
      simp only at h1
      by_cases hz : xs.length ≤ 10000
      · rw [if_pos hz] at h1
        refine ⟨q, v1, ws, rfl, hq, by rw [k.length]; exact hz, fun t ht => ?_⟩
        have L : Le X.K io1 H1 (io1 ++ [t]) (upd H1 t (.lst ws)) := Le.newL ht
        refine h1 _ _ _ L (s1.newL ht k) ((((er.mono l1).mono L).set i (VR.mono L _ _ r1)).set j ⟨t, ?_, rfl⟩)
        rw [← s1.len, List.getElem?_append_right (Nat.le_refl _), Nat.sub_self]
        rfl
      · rw [if_neg hz] at h1; exact h1.elim
  | _ => exact h1.elim
end
end Mx

set_option linter.all false
set_option maxRecDepth 100000
set_option maxHeartbeats 4000000
namespace Mx
open PySem PySem.Spec PyProof.Rows L2
/-! ### comprehensions of any kind, with one for or two -/
inductive Kd where
  | l (elt : Expr) | s (elt : Expr) | d (key val : Expr)
def Kd.mk : Kd → List Comprehension → Scope → Pos → Expr
  | .l e, g, sc, p => .ListComp e g sc p
  | .s e, g, sc, p => .SetComp e g sc p
  | .d a b, g, sc, p => .DictComp a b g sc p
def Kd.new : Kd → Sem Value
  | .l _ => newList []
  | .s _ => newSet (.type "set")
  | .d _ _ => newDict
/-- what is done with the made thing at the innermost place -/
def Kd.emit : Kd → Value → Env → Sem Unit
  | .l e, acc, env => eval e env >>= fun v => call (.builtin "list.append") [acc, v] >>= fun _ => pure ()
  | .s e, acc, env => eval e env >>= fun v => standAt e.pos >>= fun _ => call (.builtin "set.add") [acc, v] >>= fun _ => pure ()
  | .d a b, acc, env => eval a env >>= fun x => holding [x] (eval b env) >>= fun y => match acc with
    | .ref p => standAt { a.pos with endLine := b.pos.endLine, endCol := b.pos.endCol } >>= fun _ => holding [x, y] (dictSet p x y)
    | _ => unsupported "internal:dictcomp"
def testsK (ifs : List Expr) (env : Env) : Sem Bool := forIn ifs true fun c r => if r = true then (isTrue c env (eval c env) >>= fun k => pure (ForInStep.yield k)) else pure (ForInStep.yield r)
def turnB (tg iter : Expr) (ifs : List Expr) (it : Value) (env : Env) (act : Sem Unit) (ag : Sem PySem.Fin) : Sem PySem.Fin :=
  standAt iter.pos >>= fun _ => pyNext it >>= fun r => match r with
    | none => pure (.done .next)
    | some v => letOwnedTupleGo tg it v >>= fun _ => assign tg env v >>= fun _ => testsK ifs env >>= fun k => if k = true then act >>= fun _ => ag else ag
def innerB (kd : Kd) (gs : List Comprehension) (i1 : Expr) (scope : Scope) (pos : Pos) (acc : Value) (env : Env) : Sem Unit :=
  eval i1 env >>= fun x => standAt i1.pos >>= fun _ => foldedSetIterable i1 env x >>= fun x => holding [x] (pyIter x) >>= fun it => runOwn (.compStart (kd.mk gs scope pos) 1 it acc env) env >>= fun _ => pure ()
theorem turn1 (kd : Kd) (tg iter : Expr) (ifs : List Expr) (scope : Scope) (pos : Pos) (it acc : Value) (env : Env) :
    compTurn (kd.mk [⟨tg, iter, ifs, 0⟩] scope pos) 0 it acc env = turnB tg iter ifs it env (kd.emit acc env) (again (.compLoop (kd.mk [⟨tg, iter, ifs, 0⟩] scope pos) 0 it acc env)) := by
  cases kd <;> rfl
theorem turn2o (kd : Kd) (tg iter tg1 iter1 : Expr) (ifs ifs1 : List Expr) (scope : Scope) (pos : Pos) (it acc : Value) (env : Env) :
    compTurn (kd.mk [⟨tg, iter, ifs, 0⟩, ⟨tg1, iter1, ifs1, 0⟩] scope pos) 0 it acc env = turnB tg iter ifs it env (innerB kd [⟨tg, iter, ifs, 0⟩, ⟨tg1, iter1, ifs1, 0⟩] iter1 scope pos acc env) (again (.compLoop (kd.mk [⟨tg, iter, ifs, 0⟩, ⟨tg1, iter1, ifs1, 0⟩] scope pos) 0 it acc env)) := by
  unfold turnB innerB
  simp only [bind_assoc, pure_bind]
  cases kd <;> rfl
theorem turn2i (kd : Kd) (tg iter tg1 iter1 : Expr) (ifs ifs1 : List Expr) (scope : Scope) (pos : Pos) (it acc : Value) (env : Env) :
    compTurn (kd.mk [⟨tg, iter, ifs, 0⟩, ⟨tg1, iter1, ifs1, 0⟩] scope pos) 1 it acc env = turnB tg1 iter1 ifs1 it env (kd.emit acc env) (again (.compLoop (kd.mk [⟨tg, iter, ifs, 0⟩, ⟨tg1, iter1, ifs1, 0⟩] scope pos) 1 it acc env)) := by
  cases kd <;> rfl
section
variable {prog : Program} {w : World} {A : Around} {R : Result → Shared → Prop} {s : Shared} {kd : Kd} {gs : List Comprehension} {scope : Scope} {pos : Pos} {k : Nat} {it acc : Value} {env : Env} {tg iter : Expr} {ifs : List Expr} {act : Sem Unit}
theorem kd_loop (hT : compTurn (kd.mk gs scope pos) k it acc env = turnB tg iter ifs it env act (again (.compLoop (kd.mk gs scope pos) k it acc env))) (I : Nat → Shared → Prop)
    (turn : ∀ n s, I n s → wpAny (model prog w) A (pyNext it) (fun r s1 => match r with
      | none => R (.ok .next) s1
      | some v => wpAny (model prog w) A (letOwnedTupleGo tg it v) (fun _ s2 => wpAny (model prog w) A (assign tg env v) (fun _ s3 => wpAny (model prog w) A (testsK ifs env) (fun ok s4 =>
          if ok = true then wpAny (model prog w) A act (fun _ s5 => ∃ m, m < n ∧ I m s5) (notedBy (model prog w) A env fun e s' => R (.error e) s') s4 else ∃ m, m < n ∧ I m s4)
          (notedBy (model prog w) A env fun e s' => R (.error e) s') s3) (notedBy (model prog w) A env fun e s' => R (.error e) s') s2) (notedBy (model prog w) A env fun e s' => R (.error e) s') s1) (notedBy (model prog w) A env fun e s' => R (.error e) s') s)
    (n : Nat) (h : I n s) : codeAny (model prog w) A (.compLoop (kd.mk gs scope pos) k it acc env) R s := by
  have body : ∀ n s, I n s → wpAny (model prog w) A (turnB tg iter ifs it env act (again (.compLoop (kd.mk gs scope pos) k it acc env)))
      (fun f s' => match f with | .done x => R (.ok x) s' | .again c => c = .compLoop (kd.mk gs scope pos) k it acc env ∧ ∃ m, m < n ∧ I m s') (notedBy (model prog w) A env fun e s' => R (.error e) s') s := fun n s hI => by
    unfold turnB
    refine wpAny_bind (wpAny_standAt (wpAny_bind (wpAny_mono (turn n s hI) (fun r s1 h1 => ?_) fun _ _ x => x)))
    cases r with
    | none => exact wpAny_pure h1
    | some v =>
      refine wpAny_bind (wpAny_mono h1 (fun _ s2 h2 => wpAny_bind (wpAny_mono h2 (fun _ s3 h3 => wpAny_bind (wpAny_mono h3 (fun ok s4 h4 => ?_) fun _ _ x => x)) fun _ _ x => x)) fun _ _ x => x)
      cases ok with
      | false => exact wpAny_pure ⟨rfl, h4⟩
      | true => exact wpAny_bind (wpAny_mono h4 (fun _ s5 h5 => wpAny_pure ⟨rfl, h5⟩) fun _ _ x => x)
  cases kd
  · refine codeAny_loop rfl I (fun n s hI => ?_) n h
    show wpAny _ A ((compTurn (Kd.mk (.l _) gs scope pos) k it acc env).onRaise (fun x => do noteFrame x env; theTreesLotGoes x)) _ _ s
    rw [hT]
    exact wpAny_noted (wpAny_mono (body n s hI) (fun f s' q => by cases f <;> exact q) fun _ _ x => x)
  · refine codeAny_loop rfl I (fun n s hI => ?_) n h
    show wpAny _ A ((compTurn (Kd.mk (.s _) gs scope pos) k it acc env).onRaise (fun x => do noteFrame x env; theTreesLotGoes x)) _ _ s
    rw [hT]
    exact wpAny_noted (wpAny_mono (body n s hI) (fun f s' q => by cases f <;> exact q) fun _ _ x => x)
  · refine codeAny_loop rfl I (fun n s hI => ?_) n h
    show wpAny _ A ((compTurn (Kd.mk (.d _ _) gs scope pos) k it acc env).onRaise (fun x => do noteFrame x env; theTreesLotGoes x)) _ _ s
    rw [hT]
    exact wpAny_noted (wpAny_mono (body n s hI) (fun f s' q => by cases f <;> exact q) fun _ _ x => x)
theorem kd_start (hc : (clausesOf (kd.mk gs scope pos))[k]? = some ⟨tg, iter, ifs, 0⟩) (h0 : codeAny (model prog w) A (.compLoop (kd.mk gs scope pos) k it acc env) R s)
    (h : wpAny (model prog w) A (pyIter it) (fun it' s' => codeAny (model prog w) A (.compLoop (kd.mk gs scope pos) k it' acc env) R s') (notedBy (model prog w) A env fun x s' => R (.error x) s') s) :
    codeAny (model prog w) A (.compStart (kd.mk gs scope pos) k it acc env) R s := by
  have core : ∀ A' : Around, A' = A → wpAny (model prog w) A' (compStart (kd.mk gs scope pos) k it acc env)
      (fun f s' => match f with | .done x => R (.ok x) s' | .again c => c.quiet = true ∧ codeAny (model prog w) A c R s') (notedBy (model prog w) A env fun e s' => R (.error e) s') s := fun A' e => by
    subst e
    unfold compStart
    rw [hc]
    show wpAny _ _ (ask >>= _) _ _ s
    refine wpAny_bind (wpAny_askSetting (wpAny_ite ?_))
    have q0 : (Code.compLoop (kd.mk gs scope pos) k it acc env).quiet = true := by cases kd <;> rfl
    have q1 : ∀ it', (Code.compLoop (kd.mk gs scope pos) k it' acc env).quiet = true := fun it' => by cases kd <;> rfl
    split
    · first
        | exact wpAny_bind (wpAny_pure (wpAny_pure (And.intro q0 h0)))
        | exact wpAny_pure (And.intro q0 h0)
    · refine wpAny_bind (wpAny_rule ?_)
      first
        | exact wpAny_bind (wpAny_standAt (wpAny_bind (wpAny_mono h (fun it' s' h' => wpAny_pure (And.intro (q1 it') h')) fun _ _ x => x)))
        | (show wpAny _ _ (standAt iter.pos >>= _) _ _ s; exact wpAny_bind (wpAny_standAt (wpAny_bind (wpAny_mono h (fun it' s' h' => wpAny_pure (And.intro (q1 it') h')) fun _ _ x => x))))
  cases kd
  · refine codeAny_of_tree ?_
    show wpAny _ A ((compStart (Kd.mk (.l _) gs scope pos) k it acc env).onRaise (fun x => do noteFrame x env; standAt theWindowsPlace)) _ _ s
    exact wpAny_notedAt (wpAny_mono (core _ rfl) (fun f s' q => by cases f <;> exact q) fun _ _ x => x)
  · refine codeAny_of_tree ?_
    show wpAny _ A ((compStart (Kd.mk (.s _) gs scope pos) k it acc env).onRaise (fun x => do noteFrame x env; standAt theWindowsPlace)) _ _ s
    exact wpAny_notedAt (wpAny_mono (core _ rfl) (fun f s' q => by cases f <;> exact q) fun _ _ x => x)
  · refine codeAny_of_tree ?_
    show wpAny _ A ((compStart (Kd.mk (.d _ _) gs scope pos) k it acc env).onRaise (fun x => do noteFrame x env; standAt theWindowsPlace)) _ _ s
    exact wpAny_notedAt (wpAny_mono (core _ rfl) (fun f s' q => by cases f <;> exact q) fun _ _ x => x)
end
end Mx

set_option linter.all false
set_option maxRecDepth 100000
set_option maxHeartbeats 4000000
namespace Mx
open PySem PySem.Spec PyProof.Rows L2
/-- what an action on the made thing (it stands at the address) is wished to reach -/
abbrev TB := Addr → L2.St → Hp → (Hp → Prop) → Prop
/-- behind it the slots of ws may be unknown -/
structure PBd (Y : Cx) (ws : List Nat) (act : Value → Sem Unit) (tb : TB) : Prop where
  run : ∀ D pins s σ H N, Inv Y pins σ H s → tb D σ H N → wpAny (model Y.prog Y.w) Y.A (act (.ref D)) (fun _ s' => ∃ H', Inv Y pins (wipe σ ws) H' s' ∧ N H') (fun _ _ => False) s
def wLoop (J : It) (g : TG) (tt : TT) (tb : TB) (vs : List Nat) (D : Addr) (σ : L2.St) (H1 : Hp) (Nd : Hp → Prop) : Prop :=
  ∃ W : Nat → Nat → Hp → Prop, (∃ m, W 0 m H1) ∧ ∀ i m H, W i m H → (J.stop i H ∧ Nd H) ∨ (J.go i H ∧ ∃ Nx : Hp → Prop, (∀ H', Nx H' → ∃ m', m' < m ∧ W (i + 1) m' H') ∧
    ∀ x H', J.yld i H x H' → g x (wipe σ vs) H' fun σ2 H2 => wipe σ2 vs = wipe σ vs ∧ tt σ2 H2 fun b H3 => if b = true then tb D σ2 H3 Nx else Nx H3)
def tIn (wi : TI) (g : TG) (tt : TT) (tb : TB) (vs : List Nat) : TB := fun D σ H N => wi σ H fun J H1 => wLoop J g tt tb vs D σ H1 N
def tCo (wi : TI) (g : TG) (tt : TT) (tb : TB) (vs : List Nat) (ho : Addr → HO) : TE := fun σ H Q => wi σ H fun J H1 => ∀ D, H1 D = none → wLoop J g tt tb vs D σ (upd H1 D (ho D)) fun H2 => Q (.ref D) H2
theorem wipe_sub {σ σ2 : L2.St} {ws vs : List Nat} (h : wipe σ2 vs = wipe σ vs) (hw : ∀ i ∈ ws, i ∈ vs) (j : Nat) (v : V) (e : (wipe σ vs)[j]? = some (some v)) : (wipe σ2 ws)[j]? = some (some v) := by
  rw [← h] at e
  obtain ⟨e1, e2⟩ := wipe_some e
  rw [wipe_out fun z => e2 (hw j z)]
  exact e1
section
variable {X : Cx} {s0 : Shared} {H0 : Hp} {scope : Scope} {ce : Env} {fq : List Addr}
/-- the loop of one clause -/
theorem co_lvl (hc : X.calm = true) {kd : Kd} {gs : List Comprehension} {pos : Pos} {k : Nat} {it D : Addr} {fp : List Addr} {tn : Nat → Heap → Prop} {J : It} {tg iter : Expr} {ifs : List Expr} {g : TG} {tt : TT} {act : Value → Sem Unit} {tb : TB} {ws vs : List Nat} {Nd : Hp → Prop} {R : Result → Shared → Prop}
    (hT : compTurn (kd.mk gs scope pos) k (.ref it) (.ref D) ce = turnB tg iter ifs (.ref it) ce (act (.ref D)) (again (.compLoop (kd.mk gs scope pos) k (.ref it) (.ref D) ce)))
    (T : Turn X.prog X.w X.K tg J fp it tn) (pg : PG (X.blk s0 H0 scope ce fq) tg g) (pt : PTs (X.blk s0 H0 scope ce fq) ifs tt) (pb : PBd (X.blk s0 H0 scope ce fq) ws act tb) (hw : ∀ i ∈ ws, i ∈ vs)
    {pins : List (Addr × Obj)} {σ : L2.St} {H : Hp} {s : Shared} (I : Inv (X.blk s0 H0 scope ce fq) pins σ H s) (st : tn 0 s.heap) (nfp : ∀ b ∈ fp, H b = none)
    (fok : ∀ {σ' : L2.St} {H' : Hp} {s' : Shared}, Inv (X.blk s0 H0 scope ce fq) pins σ' H' s' → (∀ b ∈ fp, H' b = none) → ∀ b ∈ fp, FpOk (X.blk s0 H0 scope ce fq) pins H' b) (w : wLoop J g tt tb vs D σ H Nd)
    (fin : ∀ s' H', Inv (X.blk s0 H0 scope ce fq) pins (wipe σ vs) H' s' → Nd H' → R (.ok .next) s') :
    codeAny (model X.prog X.w) X.A (.compLoop (kd.mk gs scope pos) k (.ref it) (.ref D) ce) R s := by
  obtain ⟨W, ⟨m0, w0⟩, turn⟩ := w
  refine kd_loop hT (fun n s' => ∃ i H', Inv (X.blk s0 H0 scope ce fq) pins (wipe σ vs) H' s' ∧ tn i s'.heap ∧ (∀ b ∈ fp, H' b = none) ∧ W i n H') ?_ m0 ⟨0, H, I.weak (wipe_length _ _) (fun j v e => (wipe_some e).1), st, nfp, w0⟩
  rintro n s5 ⟨i, H5, I5, st5, n5, w5⟩
  rcases turn i n H5 w5 with ⟨stop, qq⟩ | ⟨go, Nx, hNx, step⟩
  · refine thnF (T.done (X.blk s0 H0 scope ce fq) rfl rfl rfl hc i pins s5 _ H5 (fun _ _ => False) I5 (fok I5 n5) st5 stop) fun r s6 ⟨hr, I6⟩ => ?_
    subst hr
    exact fin s6 H5 I6 qq
  · refine thnF (T.item (X.blk s0 H0 scope ce fq) rfl rfl rfl hc i pins s5 _ H5 (fun _ _ => False) I5 (fok I5 n5) st5 go) fun r s6 ⟨u, hr, h6⟩ => ?_
    subst hr
    refine thnF h6 fun _ s7 ⟨x, H7, I7, r7, y7, st7, n7⟩ => ?_
    refine thnF (pg.run _ s7 _ H7 x u _ (I7.pinned (fok I7 n7) (T.obj _ _ st7)) r7 (step x H7 y7)) fun _ s8 ⟨σ8, H8, I8, hw8, q8⟩ => ?_
    refine thnF (pt.run _ s8 σ8 H8 _ I8 q8) fun b s9 ⟨H9, I9, q9⟩ => ?_
    have fin1 : ∀ {τ : L2.St} {s' : Shared} {H' : Hp}, Inv (X.blk s0 H0 scope ce fq) (pins ++ pinsAt fp s7.heap) τ H' s' → (wipe σ vs).length = τ.length → (∀ (j : Nat) v, (wipe σ vs)[j]? = some (some v) → τ[j]? = some (some v)) → Nx H' →
        ∃ m, m < n ∧ ∃ i H', Inv (X.blk s0 H0 scope ce fq) pins (wipe σ vs) H' s' ∧ tn i s'.heap ∧ (∀ b ∈ fp, H' b = none) ∧ W i m H' := fun {τ s' H'} I' hl hk nx => by
      obtain ⟨m', hm, w'⟩ := hNx H' nx
      have pin' : ∀ b ∈ fp, ∀ o, s7.heap.get? b = some o → s'.heap.get? b = some o ∧ H' b = none := fun b hb o e =>
        have z := I'.pin (b, o) (List.mem_append_right _ (List.mem_append_right _ (mem_pinsAt hb e)))
        ⟨z.1, z.2.1⟩
      refine ⟨m', hm, i + 1, H', I'.unpinned.weak hl hk, T.keep _ _ _ st7 fun b hb o e => (pin' b hb o e).1, fun b hb => ?_, w'⟩
      obtain ⟨o, e, _⟩ := T.obj _ _ st7 b hb
      exact (pin' b hb o e).2
    have hl8 : (wipe σ vs).length = σ8.length := by rw [← hw8, wipe_length]
    cases b with
    | false =>
      simp only [Bool.false_eq_true, if_false] at q9 ⊢
      exact fin1 I9 hl8 (wipe_sub (ws := []) hw8 (fun _ h => by cases h)) q9
    | true =>
      simp only [if_true] at q9 ⊢
      exact thnF (pb.run D _ s9 σ8 H9 _ I9 q9) fun _ s10 ⟨H10, I10, nx⟩ => fin1 I10 (hl8.trans (wipe_length σ8 ws).symm) (wipe_sub hw8 hw) nx
/-- the second clause as an action of the first one's turn -/
theorem pb_in (hc : X.calm = true) {kd : Kd} {gs : List Comprehension} {pos : Pos} {tg iter : Expr} {ifs : List Expr} {wi : TI} {g : TG} {tt : TT} {act : Value → Sem Unit} {tb : TB} {ws vs : List Nat} (hk : (clausesOf (kd.mk gs scope pos))[1]? = some ⟨tg, iter, ifs, 0⟩)
    (hT : ∀ it acc, compTurn (kd.mk gs scope pos) 1 it acc ce = turnB tg iter ifs it ce (act acc) (again (.compLoop (kd.mk gs scope pos) 1 it acc ce)))
    (pi : PI (X.blk s0 H0 scope ce fq) tg iter wi) (pg : PG (X.blk s0 H0 scope ce fq) tg g) (pt : PTs (X.blk s0 H0 scope ce fq) ifs tt) (pb : PBd (X.blk s0 H0 scope ce fq) ws act tb) (hw : ∀ i ∈ ws, i ∈ vs) (hs : ∀ x, foldedSetIterable iter ce x = pure x) :
    PBd (X.blk s0 H0 scope ce fq) vs (fun acc => innerB kd gs iter scope pos acc ce) (tIn wi g tt tb vs) := by
  refine ⟨fun D pins s σ H N I h => ?_⟩
  unfold innerB
  refine wpAny_bind (thnF (pi.run pins s σ H _ I h) fun xv s1 hx => wpAny_bind (wpAny_standAt (wpAny_bind (wpAny_of_eq (hs xv) (wpAny_bind (wpAny_holding (thnF hx fun itv s2 h2 => ?_)))))))
  obtain ⟨it, fp, tn, J, H2, e, I2, T, st2, f2, q⟩ := h2
  subst e
  refine wpAny_bind (wpAny_runOwn ?_)
  rw [Around.mark_none]
  have loop : codeAny (model X.prog X.w) X.A (.compLoop (kd.mk gs scope pos) 1 (.ref it) (.ref D) ce) (fun r s' => match r with
      | .ok _ => ∃ H', Inv (X.blk s0 H0 scope ce fq) pins (wipe σ vs) H' s' ∧ N H'
      | .error _ => False) s2 :=
    co_lvl hc (hT _ _) T pg pt pb hw I2 st2 (fun b hb => (f2 b hb).1) (fun {σ' H' s'} _ hn b hb => ⟨hn b hb, (f2 b hb).2⟩) q fun s' H' I' nd => ⟨H', I', nd⟩
  refine codeAny_mono (kd_start hk loop (T.self X.A 0 _ _ _ st2 loop)) fun r s' hr => ?_
  cases r with
  | ok f =>
    first
      | exact wpAny_pure hr
      | exact wpAny_pure (wpAny_pure hr)
      | exact wpAny_bind (wpAny_pure (wpAny_pure hr))
  | error e => exact hr.elim
end
/-! ### the whole of it -/
section
variable {X : Cx}
/-- how the made thing begins -/
structure NewOk (X : Cx) (kd : Kd) (ho : Addr → HO) : Prop where
  run : ∀ (A : Around) (E : Value → Shared → Prop) (s : Shared) (Q : Value → Shared → Prop), sysModules < s.heap.objs.size → (∀ h' : Heap, (∀ b o, s.heap.get? b = some o → h'.get? b = some o) → h'.objs.size = s.heap.objs.size + 1 → (∀ H : Hp, ObjOk X.prog X.w H h' s.heap.objs.size (ho s.heap.objs.size)) → Q (.ref s.heap.objs.size) { s with heap := h' }) →
    wpAny (model X.prog X.w) A kd.new Q E s
theorem new_l {e : Expr} : NewOk X (.l e) fun _ => .lst [] := ⟨fun A E s Q _ h => wpAny_newObj_type (h _ (fun b o e => Heap.get?_push_of_some _ e) (Heap.size_push ..) fun H => ⟨Nat.zero_le _, [], 0, .nil, Heap.get?_push_size _ rfl⟩) (by show 0 ≤ sizeLine; decide)⟩
theorem co_core {kd : Kd} {gs : List Comprehension} {scope : Scope} {own : List (Str × Nat)} {pos pos' : Pos} {tg iter : Expr} {ifs : List Expr} {wi : TI} {g : TG} {tt : TT} {act : Env → Value → Sem Unit} {tb : TB} {ws : List Nat} {ho : Addr → HO} {use : Option (Value → Sem Unit)} {Qf : Value → Shared → Prop} {pins : List (Addr × Obj)} {s : Shared} {σ : L2.St} {H : Hp} {Q : VK}
    (hc : X.calm = true) (hN : X.N.Nodup) (I : Inv X pins σ H s) (hk : (clausesOf (kd.mk gs scope pos))[0]? = some ⟨tg, iter, ifs, 0⟩) (hT : ∀ it acc ce, compTurn (kd.mk gs scope pos) 0 it acc ce = turnB tg iter ifs it ce (act ce acc) (again (.compLoop (kd.mk gs scope pos) 0 it acc ce)))
    (hcl : clausesOf (kd.mk gs scope pos) = gs) (hn : NewOk X kd ho) (hi : PI X tg iter wi) (ok : BlkOk X.N X.env.scope scope own) (hw : ∀ i ∈ ws, i ∈ own.map (·.2))
    (hg : ∀ (s : Shared) (H : Hp) (C : Addr) (cl : List (Str × Addr)) (fp : List Addr), PG (X.blk s H scope (compEnvC scope cl C X.env) fp) tg g) (ht : ∀ (s : Shared) (H : Hp) (C : Addr) (cl : List (Str × Addr)) (fp : List Addr), PTs (X.blk s H scope (compEnvC scope cl C X.env) fp) ifs tt)
    (hb : ∀ (s : Shared) (H : Hp) (C : Addr) (cl : List (Str × Addr)) (fp : List Addr), PBd (X.blk s H scope (compEnvC scope cl C X.env) fp) ws (act (compEnvC scope cl C X.env)) tb) (hs : ∀ x, foldedSetIterable iter X.env x = pure x)
    (h : tCo wi g tt tb (own.map (·.2)) ho σ H Q)
    (hRR : ∀ D C s' m H', Inv X pins σ H' s' → Q (.ref D) H' → s'.heap.Ns C m → FpOk X pins H' C → compPost (model X.prog X.w) X.A X.xe use Qf (.ref D) C (.ok .next) s') :
    wpAny (model X.prog X.w) X.A (comprehension (kd.mk gs scope pos) scope X.env pos' kd.new false (eval iter X.env) use) Qf X.xe s := by
  have hfree : ∀ y ∈ scope.names, y.2 = .free → ∃ c, X.env.cells.lookup y.1 = some c := fun y hy e => (ok.free y hy e).elim (fun k => I.ok.has _ (.inl k)) fun k => I.ok.has _ (.inr k)
  have hgs : ∃ r, clausesOf (kd.mk gs scope pos) = ⟨tg, iter, ifs, 0⟩ :: r := by
    cases e : clausesOf (kd.mk gs scope pos) with
    | nil => rw [e] at hk; cases hk
    | cons a r => rw [e] at hk; cases hk; exact ⟨r, rfl⟩
  obtain ⟨r, hgs⟩ := hgs
  refine wpAny_comprehension_free (use := use) hgs hs (closure_ok hfree) ok.kind (fun y hy e => by rw [ok.uniq y hy, e]) (thn (hi.run pins s σ H _ I h) fun xv s1 hx => thn hx fun itv s2 h2 => ?_)
  obtain ⟨it, fp, tn, J, H2, e, I2, T, st2, f2, q⟩ := h2
  subst e
  refine hn.run _ _ s2 _ I2.big fun h3 k3 z3 o3 => newEnv_comp ?_
  generalize hD : s2.heap.objs.size = D at o3 z3
  have w0 := q D (I2.hok.fresh (Nat.le_of_eq hD))
  generalize hs3 : ({ s2 with heap := h3 } : Shared) = s3
  have e3 : s3.heap = h3 := by rw [← hs3]
  have I3 : Inv X pins σ (upd H2 D (ho D)) s3 := by
    rw [← hs3]
    exact I2.laid (t' := s2.toks) k3 (Nat.le_of_eq hD) (o3 _)
  have sz : ∀ b ∈ fp, b < s2.heap.objs.size := fun b hb => by
    obtain ⟨o, e, _⟩ := T.obj _ _ st2 b hb
    exact Heap.lt_size e
  have f3 : ∀ b ∈ fp, FpOk X pins (upd H2 D (ho D)) b ∧ b < s3.heap.objs.size := fun b hb => by
    have hlt := sz b hb
    refine ⟨⟨?_, (f2 b hb).2⟩, by rw [e3, z3]; exact Nat.lt_succ_of_lt (hD ▸ hlt)⟩
    rw [upd_ne (by rw [← hD]; exact Nat.ne_of_lt hlt)]
    exact (f2 b hb).1
  have st3 : tn 0 s3.heap := T.keep _ _ _ st2 fun b _ o e => by rw [e3]; exact k3 b o e
  have I4 := block_start I3 ok hN f3
  have pg := hg s3 (upd H2 D (ho D)) s3.heap.objs.size (cellsFrom (s3.heap.objs.size + 1) scope.names (cloFrom X.env.cells scope.names [])) fp
  have pt := ht s3 (upd H2 D (ho D)) s3.heap.objs.size (cellsFrom (s3.heap.objs.size + 1) scope.names (cloFrom X.env.cells scope.names [])) fp
  have pb := hb s3 (upd H2 D (ho D)) s3.heap.objs.size (cellsFrom (s3.heap.objs.size + 1) scope.names (cloFrom X.env.cells scope.names [])) fp
  show codeAny _ _ (.compStart (kd.mk gs scope pos) 0 (.ref it) (.ref D) (compEnvC scope (cellsFrom (s3.heap.objs.size + 1) scope.names (cloFrom X.env.cells scope.names [])) s3.heap.objs.size X.env)) (compPost (model X.prog X.w) X.A X.xe use Qf (.ref D) s3.heap.objs.size) { s3 with heap := pushCells (s3.heap.push { cls := .type "dict", data := .dict #[] }) scope.names }
  have nfp : ∀ b ∈ fp, (upd H2 D (ho D)) b = none := fun b hb => (f3 b hb).1.1
  generalize hce : compEnvC scope (cellsFrom (s3.heap.objs.size + 1) scope.names (cloFrom X.env.cells scope.names [])) s3.heap.objs.size X.env = ce at I4 pg pt pb ⊢
  have cL : ce.locals = s3.heap.objs.size := by subst hce; rfl
  generalize hH3 : upd H2 D (ho D) = H3 at I3 I4 pg pt pb w0 nfp f3
  generalize hs4 : ({ s3 with heap := pushCells (s3.heap.push { cls := .type "dict", data := .dict #[] }) scope.names } : Shared) = s4 at I4 ⊢
  have st4 : tn 0 s4.heap := T.keep _ _ _ st3 fun b _ o e => by rw [← hs4]; exact pushCells_keeps _ _ _ _ (Heap.get?_push_of_some _ e)
  have loop : codeAny (model X.prog X.w) X.A (.compLoop (kd.mk gs scope pos) 0 (.ref it) (.ref D) ce) (compPost (model X.prog X.w) X.A X.xe use Qf (.ref D) s3.heap.objs.size) s4 := by
    have w1 : wLoop J g tt tb (own.map (·.2)) D (wipe σ (own.map (·.2))) H3 fun H2 => Q (.ref D) H2 := by
      obtain ⟨W, w2, w3⟩ := w0
      refine ⟨W, w2, fun i m H p => ?_⟩
      have e : wipe (wipe σ (own.map (·.2))) (own.map (·.2)) = wipe σ (own.map (·.2)) := wipe_wipe _ _
      rw [e]
      exact w3 i m H p
    refine co_lvl hc (hT _ _ _) T pg pt pb hw I4 st4 nfp (fun {σ' H' s'} I' hn b hb => ⟨hn b hb, (I'.ok.exf b hb).1, I'.ok.exfs b hb, .inl hb, fun x c e => (I'.ok.exf b hb).2 x c e, fun p hp => absurd (show p ∈ ([] : List (Addr × Obj)) ++ [] from hp) (by simp)⟩) w1 fun s6 H5 I6 qq => ?_
    have I7 : Inv X pins σ H5 s6 := I3.call' (ch := fp) I6.os I6.base I6.hok I6.bare fun b hb => ⟨(f3 b hb).1.2.2.2.1, (f3 b hb).1.2.1, (f3 b hb).1.2.2.2.2.1, (f3 b hb).1.2.2.2.2.2⟩
    have nC : H5 s3.heap.objs.size = none := by
      have z : H5 ce.locals = none := I6.free
      rw [cL] at z
      exact z
    obtain ⟨m, hn, _⟩ := I6.loc
    have hn : s6.heap.Ns ce.locals m := hn
    rw [cL] at hn
    exact hRR D s3.heap.objs.size s6 m H5 I7 qq hn (I3.fpOk (Nat.le_refl _) nC)
  exact kd_start hk loop (T.self X.A 0 _ _ _ st4 loop)
end
end Mx

set_option linter.all false
set_option maxRecDepth 100000
set_option maxHeartbeats 4000000
namespace Mx
open PySem PySem.Spec PyProof.Rows L2
/-! ### what is kept while the thing at D is being made -/
structure LeD (K : PySem.W.Frag) (D : Addr) (io : List Addr) (H : Hp) (io' : List Addr) (H' : Hp) : Prop where
  ia : ∀ (n : Nat) (a : Addr), io[n]? = some a → io'[n]? = some a
  tu : ∀ (a : Addr) (xs : List V), SqT K H a xs → SqT K H' a xs
  fz : ∀ (a : Addr) (xs : List V), SqF K H a xs → SqF K H' a xs
  fr : ∀ (a : Addr) (o : HO), H a = some o → a ∉ io → a ≠ D → H' a = some o ∧ a ∉ io'
section
variable {K : PySem.W.Frag} {D : Addr} {io io1 io2 io' : List Addr} {H H1 H2 H' : Hp}
theorem Le.d (l : Le K io H io' H') : LeD K D io H io' H' := ⟨l.ia, l.tu, l.fz, fun a o h k _ => l.fr a o h k⟩
theorem LeD.refl : LeD K D io H io H := Le.refl.d
theorem LeD.trans (a : LeD K D io H io1 H1) (b : LeD K D io1 H1 io2 H2) : LeD K D io H io2 H2 :=
  ⟨fun n x h => b.ia n x (a.ia n x h), fun n x h => b.tu n x (a.tu n x h), fun n x h => b.fz n x (a.fz n x h), fun x o h k d => b.fr x o (a.fr x o h k d).1 (a.fr x o h k d).2 d⟩
theorem LeD.w {B : Hp} (l : LeD K D io H io' H') (h : ∀ a o, H a = some o → a ∉ io → B a = none → a ≠ D) : LeW K B io H io' H' := ⟨l.ia, l.tu, l.fz, fun a o e k b => l.fr a o e k (h a o e k b)⟩
theorem LeD.w0 (l : LeD K D io H io' H') : LeW K (fun a => if a = D then some (.lst []) else none) io H io' H' := l.w fun a o _ _ b e => by rw [if_pos e] at b; cases b
theorem LeD.le {B : Hp} {ib : List Addr} (b : Le K ib B io H) (l : LeD K D io H io' H') (h : B D = none) : Le K ib B io' H' :=
  ⟨fun n x e => l.ia n x (b.ia n x e), fun n x e => l.tu n x (b.tu n x e), fun n x e => l.fz n x (b.fz n x e), fun x o e k => l.fr x o (b.fr x o e k).1 (b.fr x o e k).2 (ne_of_none e h)⟩
theorem ER.monoD {env : Ev} {σ : L2.St} (l : LeD K D io H io' H') (h : ER K io H env σ) : ER K io' H' env σ := ⟨h.len, fun i x e => let ⟨v, e2, r⟩ := h.get i x e; ⟨v, e2, VR.monoW l.w0 _ _ r⟩⟩
end
/-- what is wanted behind an outcome that is the thing made so far -/
def FinA {α : Type} (K : PySem.W.Frag) (AO : List Addr → Hp → α → Addr → Prop) (E : XK) (D : Addr) (io : List Addr) (H : Hp) (N : Hp → Prop) : Out α → Prop
  | .ok a S => ∀ io' H', LeD K D io H io' H' → SR K io' H' S → AO io' H' a D → D ∉ io' → N H'
  | .err x S => ∀ io' H' c d, LeD K D io H io' H' → SR K io' H' S → XR K io' H' x c d → E c d H'
  | .bad => False
section
variable {α β γ : Type} {K : PySem.W.Frag} {AO : List Addr → Hp → α → Addr → Prop} {E : XK} {D : Addr} {io io' : List Addr} {H H' : Hp} {N N1 : Hp → Prop}
theorem FinA.mono {o : Out α} (l : LeD K D io H io' H') (h : FinA K AO E D io H N o) : FinA K AO E D io' H' N o := by
  cases o with
  | ok a S => exact fun io2 H2 l2 => h io2 H2 (l.trans l2)
  | err x S => exact fun io2 H2 c d l2 => h io2 H2 c d (l.trans l2)
  | bad => exact h
theorem finA_bind {o : Out β} {f : β → M α} {R : List Addr → Hp → β → γ → Prop} {Q : γ → Hp → Prop} (h : FinA K AO E D io H N (o.bind f))
    (k : ∀ x S io1 H1 v, o = .ok x S → Le K io H io1 H1 → SR K io1 H1 S → R io1 H1 x v → FinA K AO E D io1 H1 N (f x S) → Q v H1) : FinG K R E io H Q o := by
  cases o with
  | ok x S => exact fun io1 H1 v l s r => k x S io1 H1 v rfl l s r (FinA.mono l.d h)
  | err x S => exact fun io1 H1 c d l s r => h io1 H1 c d l.d s r
  | bad => exact h
theorem finA_bindA {o : Out α} {f : α → M α} (h : FinA K AO E D io H N (o.bind f))
    (k : ∀ a S io1 H1, o = .ok a S → LeD K D io H io1 H1 → SR K io1 H1 S → AO io1 H1 a D → D ∉ io1 → FinA K AO E D io1 H1 N (f a S) → N1 H1) : FinA K AO E D io H N1 o := by
  cases o with
  | ok a S => exact fun io1 H1 l s r d => k a S io1 H1 rfl l s r d (FinA.mono l h)
  | err x S => exact h
  | bad => exact h
end
/-! ### the denotations -/
def compG {α : Type} (src : Src) (tg : Tg) (t : Ev → M Bool) (b : Ev → α → M α) (env0 : Ev) : Nat → Nat → α → M α
  | 0, _, acc, S => if src.fin S = true then .ok acc S else .bad
  | r + 1, i, acc, S => match src.item S i with
    | none => .bad
    | some x => match tgM tg x env0 with
      | none => .bad
      | some env2 => (t env2 S).bind fun k S2 => if k = true then (b env2 acc S2).bind fun acc' S3 => compG src tg t b env0 r (i + 1) acc' S3 else compG src tg t b env0 r (i + 1) acc S2
def bIn {α : Type} (ms : Ev → M Src) (tg : Tg) (t : Ev → M Bool) (b : Ev → α → M α) (vs : List Nat) : Ev → α → M α := fun env acc S => (ms env S).bind fun src S1 => compG src tg t b (wip env vs) src.size 0 acc S1
def mCo {α : Type} (ms : Ev → M Src) (tg : Tg) (t : Ev → M Bool) (b : Ev → α → M α) (vs : List Nat) (acc0 : α) : Ev → M α := fun env S => bIn ms tg t b vs env acc0 S
def bApp (me : Ev → M Val) : Ev → List Val → M (List Val) := fun env acc S => (me env S).bind fun y S1 => if acc.length < lim then .ok (acc ++ [y]) S1 else .bad
structure AOk {α : Type} (K : PySem.W.Frag) (AO : List Addr → Hp → α → Addr → Prop) : Prop where
  mono : ∀ {D : Addr} {io io' : List Addr} {H H' : Hp} {acc : α}, Le K io H io' H' → D ∉ io → AO io H acc D → AO io' H' acc D
  out : ∀ {D : Addr} {io io' : List Addr} {H H' : Hp} {acc : α}, Le K io H io' H' → D ∉ io → AO io H acc D → D ∉ io'
  some : ∀ {D : Addr} {io : List Addr} {H : Hp} {acc : α}, AO io H acc D → H D ≠ none
structure PBm {α : Type} (Y : Cx) (ws : List Nat) (AO : List Addr → Hp → α → Addr → Prop) (E : XK) (act : Value → Sem Unit) (b : Ev → α → M α) : Prop where
  ex : ∃ tb, PBd Y ws act tb ∧ ∀ D io σ H env S acc N, ER Y.K io H env σ → SR Y.K io H S → AO io H acc D → D ∉ io → FinA Y.K AO E D io H N (b env acc S) → tb D σ H N
section
variable {α : Type} {K : PySem.W.Frag} {AO : List Addr → Hp → α → Addr → Prop} {E : XK}
theorem co_run (aok : AOk K AO) {tg : Tg} {mt : Ev → M Bool} {b : Ev → α → M α} {tb : TB} {vs : List Nat} (hv : ∀ j ∈ tgS tg, j ∈ vs)
    (qb : ∀ D io σ H env S acc N, ER K io H env σ → SR K io H S → AO io H acc D → D ∉ io → FinA K AO E D io H N (b env acc S) → tb D σ H N)
    {B H0 H1 : Hp} {io0 io : List Addr} {src : Src} {J : It} (jr : JR K B io0 H0 src J) {D : Addr} (hD : ∀ a o, H1 a = some o → a ∉ io → B a = none → H0 a ≠ none → a ≠ D) (lw : LeW K B io0 H0 io H1)
    {env : Ev} {σ : L2.St} {S : Sto} {acc : α} {N : Hp → Prop} (er : ER K io H1 (wip env vs) (wipe σ vs)) (sr : SR K io H1 S) (ao : AO io H1 acc D) (hn : D ∉ io)
    (h : FinA K AO E D io H1 N (compG src tg mt b (wip env vs) src.size 0 acc S)) : wLoop J (tgT K tg) (tT K E mt) tb vs D σ H1 N := by
  have lw2 : ∀ {io2 : List Addr} {H2 : Hp}, LeD K D io H1 io2 H2 → LeW K B io0 H0 io2 H2 := fun {io2 H2} l => ⟨fun n x e => l.ia n x (lw.ia n x e), fun n x e => l.tu n x (lw.tu n x e), fun n x e => l.fz n x (lw.fz n x e), fun x o e k hb =>
    l.fr x o (lw.fr x o e k hb).1 (lw.fr x o e k hb).2 (hD x o (lw.fr x o e k hb).1 (lw.fr x o e k hb).2 hb (by rw [e]; intro z; cases z))⟩
  refine ⟨fun i m H => ∃ io2 S2 acc2, i + m = src.size ∧ LeD K D io H1 io2 H ∧ SR K io2 H S2 ∧ AO io2 H acc2 D ∧ D ∉ io2 ∧ FinA K AO E D io H1 N (compG src tg mt b (wip env vs) m i acc2 S2), ⟨src.size, io, S, acc, Nat.zero_add _, LeD.refl, sr, ao, hn, h⟩, ?_⟩
  rintro i m H ⟨io2, S2, acc2, hsz, l2, s2, a2, n2, hf⟩
  cases m with
  | zero =>
    left
    have ei : i = src.size := by omega
    subst ei
    simp only [compG] at hf
    by_cases hfin : src.fin S2 = true
    · rw [if_pos hfin] at hf
      exact ⟨jr.stop io2 H S2 (lw2 l2) s2 hfin, hf io2 H l2 s2 a2 n2⟩
    · rw [if_neg hfin] at hf
      exact hf.elim
  | succ m =>
    right
    simp only [compG] at hf
    cases ex : src.item S2 i with
    | none => simp only [ex] at hf; exact hf.elim
    | some x =>
      simp only [ex] at hf
      cases eg : tgM tg x (wip env vs) with
      | none => simp only [eg] at hf; exact hf.elim
      | some env2 =>
        simp only [eg] at hf
        obtain ⟨jg, jy⟩ := jr.go io2 H S2 i x (lw2 l2) s2 ex
        refine ⟨jg, fun H' => ∃ io2 S2 acc2, i + 1 + m = src.size ∧ LeD K D io H1 io2 H' ∧ SR K io2 H' S2 ∧ AO io2 H' acc2 D ∧ D ∉ io2 ∧ FinA K AO E D io H1 N (compG src tg mt b (wip env vs) m (i + 1) acc2 S2), fun H' w => ⟨m, Nat.lt_succ_self m, w⟩, fun y H' hy => ?_⟩
        obtain ⟨l3, s3, rx⟩ := jy y H' hy
        refine tg_ok tg x y _ env2 _ _ ((er.monoD l2).mono l3) rx eg fun σ2 er2 wp => ?_
        refine ⟨by rw [wp vs hv, wipe_wipe], ?_⟩
        have l23 := l2.trans l3.d
        have a3 := aok.mono l3 n2 a2
        have n3 := aok.out l3 n2 a2
        refine ⟨io2, env2, S2, er2, s3, finA_bind (FinA.mono l23 hf) fun k S4 io4 H4 k' et l4 s4 r4 _ => ?_⟩
        cases (show k = k' from r4)
        rw [et] at hf
        have hf : FinA K AO E D io H1 N (if k = true then (b env2 acc2 S4).bind fun acc' S3 => compG src tg mt b (wip env vs) m (i + 1) acc' S3 else compG src tg mt b (wip env vs) m (i + 1) acc2 S4) := hf
        have l24 := l23.trans l4.d
        have a4 := aok.mono l4 n3 a3
        have n4 := aok.out l4 n3 a3
        cases k with
        | false =>
          rw [if_neg Bool.false_ne_true] at hf ⊢
          exact ⟨io4, S4, acc2, by omega, l24, s4, a4, n4, hf⟩
        | true =>
          rw [if_pos rfl] at hf ⊢
          refine qb D io4 σ2 H4 env2 S4 acc2 _ (er2.mono l4) s4 a4 n4 (finA_bindA (FinA.mono l24 hf) fun acc5 S5 io5 H5 ee l5 s5 a5 n5 _ => ?_)
          rw [ee] at hf
          exact ⟨io5, S5, acc5, by omega, l24.trans l5, s5, a5, n5, hf⟩
end
/-- a new thing that the store does not hold -/
def RA {α : Type} (AO : List Addr → Hp → α → Addr → Prop) (B : Hp) (io : List Addr) (H : Hp) (x : α) (v : V) : Prop := ∃ D, v = .ref D ∧ AO io H x D ∧ B D = none ∧ D ∉ io
section
variable {α : Type} {X : Cx} {AO : List Addr → Hp → α → Addr → Prop} {E : XK}
/-- the second clause -/
theorem pbm_in {s0 : Shared} {H0 : Hp} {scope : Scope} {ce : Env} {fq : List Addr} (aok : AOk X.K AO) (hc : X.calm = true) {kd : Kd} {gs : List Comprehension} {pos : Pos} {tg iter : Expr} {ifs : List Expr} {ms : Ev → M Src} {t : Tg} {mt : Ev → M Bool} {act : Value → Sem Unit} {b : Ev → α → M α} {vs : List Nat}
    (hk : (clausesOf (kd.mk gs scope pos))[1]? = some ⟨tg, iter, ifs, 0⟩) (hT : ∀ it acc, compTurn (kd.mk gs scope pos) 1 it acc ce = turnB tg iter ifs it ce (act acc) (again (.compLoop (kd.mk gs scope pos) 1 it acc ce)))
    (pi : PIm (X.blk s0 H0 scope ce fq) E tg iter ms) (pg : PGt (X.blk s0 H0 scope ce fq) tg t) (pt : PTsm (X.blk s0 H0 scope ce fq) E ifs mt) (pb : PBm (X.blk s0 H0 scope ce fq) [] AO E act b) (hv : ∀ j ∈ tgS t, j ∈ vs) (hs : ∀ x, foldedSetIterable iter ce x = pure x) :
    PBm (X.blk s0 H0 scope ce fq) vs AO E (fun acc => innerB kd gs iter scope pos acc ce) (bIn ms t mt b vs) := by
  obtain ⟨tb, p1, q1⟩ := pb.ex
  obtain ⟨wi, p2, q2⟩ := pi.ex
  refine ⟨_, pb_in hc hk hT p2 pg.pg pt.pt p1 (fun i h => by cases h) hs, fun D io σ H env S acc N er sr ao hn h => ?_⟩
  refine q2 io σ H env S _ er sr (finA_bind h fun src S1 io1 H1 J eo l1 s1 jr h1 => ?_)
  have hD : H D ≠ none := aok.some ao
  exact co_run aok hv q1 jr (fun a o _ _ hb _ e => hD (by rw [← e]; exact hb)) Le.refl.w (er_wip (er.mono l1) vs) s1 (aok.mono l1 hn ao) (aok.out l1 hn ao) h1

/-- the whole of it, as a value -/
theorem eval_kd (kd : Kd) (g : Comprehension) (r : List Comprehension) (scope : Scope) (pos : Pos) (env : Env) : eval (kd.mk (g :: r) scope pos) env = comprehension (kd.mk (g :: r) scope pos) scope env (firstIterPos (g :: r) pos) kd.new (firstAsync (g :: r)) (firstIter (g :: r) env) := by
  cases kd <;> rfl
theorem clauses_kd (kd : Kd) (gs : List Comprehension) (scope : Scope) (pos : Pos) : clausesOf (kd.mk gs scope pos) = gs := by cases kd <;> rfl
theorem co_te {N : List Str} {sc : Scope} {kd : Kd} {tg iter : Expr} {ifs : List Expr} {r : List Comprehension} {scope : Scope} {own : List (Str × Nat)} {pos : Pos} {ms : Ev → M Src} {t : Tg} {mt : Ev → M Bool} {act : Env → Value → Sem Unit} {b : Ev → α → M α} {ws : List Nat} {ho : Addr → HO} {acc0 : α} (aok : AOk X.K AO)
    (h0 : ∀ io (H : Hp) D, H D = none → AO io (upd H D (ho D)) acc0 D) (hi : PIm X E tg iter ms)
    (hg : ∀ (s : Shared) (H : Hp) (C : Addr) (cl : List (Str × Addr)) (fp : List Addr), PGt (X.blk s H scope (compEnvC scope cl C X.env) fp) tg t)
    (hv : ∀ j ∈ tgS t, j ∈ own.map (·.2)) : ∃ wi, PI X tg iter wi ∧ ∀ tb, (∀ D io σ H env S acc N, ER X.K io H env σ → SR X.K io H S → AO io H acc D → D ∉ io → FinA X.K AO E D io H N (b env acc S) → tb D σ H N) →
      ∀ io σ H env S Q, ER X.K io H env σ → SR X.K io H S → FinG X.K (RA AO H) E io H Q (mCo ms t mt b (own.map (·.2)) acc0 env S) → tCo wi (tgT X.K t) (tT X.K E mt) tb (own.map (·.2)) ho σ H Q := by
  obtain ⟨wi, pi, qi⟩ := hi.ex
  refine ⟨wi, pi, fun tb qb io σ H env S Q er sr h => ?_⟩
  refine qi io σ H env S _ er sr (fin_bind h fun src S1 io1 H1 J eo l1 s1 jr h1 => ?_)
  intro D hD
  have hB := (fresh l1 s1 hD).1
  have hn := (fresh l1 s1 hD).2
  have hh : ∀ a o, (upd H1 D (ho D)) a = some o → a ∉ io1 → H a = none → H1 a ≠ none → a ≠ D := fun a o _ _ _ e z => e (by rw [z]; exact hD)
  refine co_run (AO := AO) aok hv qb jr hh (Le.new hD).w (er_wip ((er.mono l1).mono (Le.new hD)) (own.map (·.2))) (s1.new hD) (h0 io1 H1 D hD) hn ?_
  have h2 : FinG X.K (RA AO H) E io1 H1 Q (compG src t mt b (wip env (own.map (·.2))) src.size 0 acc0 S1) := h1
  cases e : compG src t mt b (wip env (own.map (·.2))) src.size 0 acc0 S1 with
  | ok a S2 =>
    rw [e] at h2
    intro io' H' l s ao n
    exact h2 io' H' _ (LeD.le (Le.new hD) l hD) s ⟨D, rfl, ao, hB, n⟩
  | err x S2 =>
    rw [e] at h2
    intro io' H' c d l s r
    exact h2 io' H' c d (LeD.le (Le.new hD) l hD) s r
  | bad => rw [e] at h2; exact h2
/-- as a value -/
theorem pxm_co {N : List Str} {sc : Scope} {kd : Kd} {tg iter : Expr} {ifs : List Expr} {r : List Comprehension} {scope : Scope} {own : List (Str × Nat)} {pos : Pos} {ms : Ev → M Src} {t : Tg} {mt : Ev → M Bool} {act : Env → Value → Sem Unit} {b : Ev → α → M α} {ws : List Nat} {ho : Addr → HO} {acc0 : α} (aok : AOk X.K AO)
    (h0 : ∀ io (H : Hp) D, H D = none → AO io (upd H D (ho D)) acc0 D) (hnew : NewOk X kd ho) (hc : X.calm = true) (hN : X.N.Nodup)
    (hT : ∀ it acc ce, compTurn (kd.mk (⟨tg, iter, ifs, 0⟩ :: r) scope pos) 0 it acc ce = turnB tg iter ifs it ce (act ce acc) (again (.compLoop (kd.mk (⟨tg, iter, ifs, 0⟩ :: r) scope pos) 0 it acc ce))) (hi : PIm X E tg iter ms) (ok : blkC N sc scope own = true) (eN : X.N = N) (eS : X.env.scope = sc) (hw : ∀ i ∈ ws, i ∈ own.map (·.2))
    (hg : ∀ (s : Shared) (H : Hp) (C : Addr) (cl : List (Str × Addr)) (fp : List Addr), PGt (X.blk s H scope (compEnvC scope cl C X.env) fp) tg t) (ht : ∀ (s : Shared) (H : Hp) (C : Addr) (cl : List (Str × Addr)) (fp : List Addr), PTsm (X.blk s H scope (compEnvC scope cl C X.env) fp) E ifs mt)
    (tb : TB) (hb1 : ∀ (s : Shared) (H : Hp) (C : Addr) (cl : List (Str × Addr)) (fp : List Addr), PBd (X.blk s H scope (compEnvC scope cl C X.env) fp) ws (act (compEnvC scope cl C X.env)) tb)
    (hb2 : ∀ D io σ H env S acc N, ER X.K io H env σ → SR X.K io H S → AO io H acc D → D ∉ io → FinA X.K AO E D io H N (b env acc S) → tb D σ H N)
    (hv : ∀ j ∈ tgS t, j ∈ own.map (·.2)) (hs : ∀ x, foldedSetIterable iter X.env x = pure x := by intro _; rfl) :
    PXm X E (RA AO) (kd.mk (⟨tg, iter, ifs, 0⟩ :: r) scope pos) (mCo ms t mt b (own.map (·.2)) acc0) := by
  obtain ⟨wi, pi, q⟩ := co_te (N := N) (sc := sc) (kd := kd) (ifs := ifs) (r := r) (pos := pos) (act := act) (ws := ws) (mt := mt) (E := E) aok h0 hi hg hv
  refine ⟨_, ⟨fun pins s σ H Q I h => ?_⟩, fun io σ H env S Q er sr h => q tb hb2 io σ H env S Q er sr h⟩
  rw [eval_kd]
  refine co_core hc hN I (by rw [clauses_kd]; rfl) (fun it acc ce => hT it acc ce) (clauses_kd ..) hnew pi (blkOk_by (by rw [eN, eS]; exact ok)) hw (fun s H C cl fp => (hg s H C cl fp).pg) (fun s H C cl fp => (ht s H C cl fp).pt) hb1 hs h fun D C s' m H' I' q hn f => ⟨m, hn, fun h'' sb => ?_⟩
  obtain ⟨f0, f1, f2, f3, f4, f5⟩ := f
  exact ⟨.ref D, H', I'.turned (t' := s'.toks) (fun b o hb e => (sb.2 b hb).trans e) f0 f1 f3 f4 f5, rfl, q⟩
/-- y = it, on one line -/
theorem ps_setCo {i : Nat} {y : Str} {py : Pos} {kd : Kd} {tg iter : Expr} {ifs : List Expr} {r : List Comprehension} {scope : Scope} {own : List (Str × Nat)} {pos spos : Pos} {wi : TI} {g : TG} {tt : TT} {act : Env → Value → Sem Unit} {ws : List Nat} {ho : Addr → HO} (hnew : NewOk X kd ho) (hc : X.calm = true) (hN : X.N.Nodup)
    (hy : X.N[i]? = some y) (hyl : X.env.scope.names.lookup y = some .local) (hsw : swapsWith (kd.mk (⟨tg, iter, ifs, 0⟩ :: r) scope pos) (some (.Name y py)) spos.line X.env = pure true)
    (hT : ∀ it acc ce, compTurn (kd.mk (⟨tg, iter, ifs, 0⟩ :: r) scope pos) 0 it acc ce = turnB tg iter ifs it ce (act ce acc) (again (.compLoop (kd.mk (⟨tg, iter, ifs, 0⟩ :: r) scope pos) 0 it acc ce))) (hi : PI X tg iter wi) (ok : BlkOk X.N X.env.scope scope own) (hw : ∀ i ∈ ws, i ∈ own.map (·.2))
    (hg : ∀ (s : Shared) (H : Hp) (C : Addr) (cl : List (Str × Addr)) (fp : List Addr), PG (X.blk s H scope (compEnvC scope cl C X.env) fp) tg g) (ht : ∀ (s : Shared) (H : Hp) (C : Addr) (cl : List (Str × Addr)) (fp : List Addr), PTs (X.blk s H scope (compEnvC scope cl C X.env) fp) ifs tt)
    {tb : TB} (hb : ∀ (s : Shared) (H : Hp) (C : Addr) (cl : List (Str × Addr)) (fp : List Addr), PBd (X.blk s H scope (compEnvC scope cl C X.env) fp) ws (act (compEnvC scope cl C X.env)) tb) (hs : ∀ x, foldedSetIterable iter X.env x = pure x := by intro _; rfl) :
    PS X (.Assign [.Name y py] (kd.mk (⟨tg, iter, ifs, 0⟩ :: r) scope pos) spos) (tAsg (tCo wi g tt tb (own.map (·.2)) ho) (gName i)) := by
  refine ⟨fun pins s σ H D I h => ?_⟩
  rw [exec_Assign_Name_used _ _ _ _ hsw]
  refine wpAny_bind (wpAny_standAt (wpAny_bind ?_))
  have h : tCo wi g tt tb (own.map (·.2)) ho σ H (fun x H1 => gName i x σ H1 D.nx) := h
  have core := co_core (Qf := fun _ s' => SP X pins D .next s') (use := some (assign (.Name y py) X.env)) (pos' := firstIterPos (⟨tg, iter, ifs, 0⟩ :: r) pos) hc hN I (by rw [clauses_kd]; rfl) (fun it acc ce => hT it acc ce) (clauses_kd ..) hnew hi ok hw hg ht hb hs h fun L C s' m H' I' q hn f => by
    show wpAny _ _ (assign (.Name y py) X.env (.ref L)) _ _ _
    refine wpAny_assign_Name (store_ok2 (v := V.ref L) I' hN hy (.inl hyl) rfl (fun s2 I2 ⟨a, sb, ha⟩ => ?_) (.inr hyl))
    obtain ⟨f0, f1, f2, f3, f4, f5⟩ := f
    have haC : C ≠ a := by
      rcases ha with z | z
      · rw [z]; exact f1
      · exact fun e => f4 y a z e.symm
    refine ⟨m, hn.sameBut sb haC, fun h3 sb3 => ?_⟩
    exact ⟨_, H', I2.turned (t' := s2.toks) (fun b o hb e => (sb3.2 b hb).trans e) f0 f1 f3 f4 f5, q⟩
  cases kd
  · show wpAny _ X.A (comprehension _ _ _ _ _ _ _ _ >>= _) _ _ s
    exact wpAny_bind (thn core fun _ s' hq => wpAny_pure (wpAny_pure hq))
  · show wpAny _ X.A (comprehension _ _ _ _ _ _ _ _ >>= _) _ _ s
    exact wpAny_bind (thn core fun _ s' hq => wpAny_pure (wpAny_pure hq))
  · show wpAny _ X.A (comprehension _ _ _ _ _ _ _ _ >>= _) _ _ s
    exact wpAny_bind (thn core fun _ s' hq => wpAny_pure (wpAny_pure hq))
end
end Mx

set_option linter.all false
set_option maxRecDepth 100000
set_option maxHeartbeats 4000000
namespace Mx
/-! ### what a run ends in: no exception, and Q of value and store -/
def Wp {α : Type} (o : Out α) (Q : α → Sto → Prop) : Prop := match o with
  | .ok a S => Q a S
  | _ => False
section
variable {α β : Type}
theorem wp_ok {a : α} {S : Sto} {Q : α → Sto → Prop} : Wp (.ok a S) Q = Q a S := rfl
theorem wp_bind {o : Out α} {f : α → M β} {Q : β → Sto → Prop} : Wp (o.bind f) Q = Wp o fun a S => Wp (f a S) Q := by cases o <;> rfl
theorem Wp.mono {o : Out α} {Q Q' : α → Sto → Prop} (h : Wp o Q) (k : ∀ a S, Q a S → Q' a S) : Wp o Q' := by
  cases o with
  | ok a S => exact k a S h
  | _ => exact h
theorem Wp.ex {o : Out α} {Q : α → Sto → Prop} (h : Wp o Q) : ∃ a S, o = .ok a S ∧ Q a S := by
  cases o with
  | ok a S => exact ⟨a, S, rfl, h⟩
  | _ => exact h.elim
theorem Wp.of {o : Out α} {Q : α → Sto → Prop} {a : α} {S : Sto} (e : o = .ok a S) (h : Q a S) : Wp o Q := by rw [e]; exact h
theorem wp_if {c : Prop} [Decidable c] {x y : Out α} {Q : α → Sto → Prop} (h1 : c → Wp x Q) (h2 : ¬c → Wp y Q) : Wp (if c then x else y) Q := by
  by_cases h : c
  · rw [if_pos h]; exact h1 h
  · rw [if_neg h]; exact h2 h
theorem wp_trm {g : List Val → M Val} {xs : List Val} {S : Sto} {Q : Val → Sto → Prop} (h : Wp (g xs S) Q)
    (k : ∀ v S1, Q v S1 → bel S.length v = true → (S1.take S.length).all (Ob.bel S.length) = true → Q v (S1.take S.length)) : Wp (trm g xs S) Q := by
  unfold trm
  cases e : g xs S with
  | ok v S1 =>
    rw [e] at h
    simp only
    by_cases hb : (bel S.length v && (S1.take S.length).all (Ob.bel S.length)) = true
    · rw [if_pos hb]
      rw [Bool.and_eq_true] at hb
      exact k v S1 h hb.1 hb.2
    · rw [if_neg hb]; exact h
  | err x S1 => rw [e] at h; exact h.elim
  | bad => rw [e] at h; exact h.elim
end

/-! ### the deck -/
structure Dk (S : Sto) (D C m : Nat) : Prop where
  ex : ∃ (k : Int) (cs : List Int), S[D]? = some (.lst [.loc C, .int k]) ∧ S[C]? = some (.lst (cs.map .int)) ∧ (∀ c ∈ cs, 0 ≤ c) ∧ D ≠ C ∧ 0 ≤ k ∧ k ≤ (m : Int)
theorem Dk.le {S : Sto} {D C m m' : Nat} (h : Dk S D C m) (l : m ≤ m') : Dk S D C m' := by
  obtain ⟨k, cs, h1, h2, h3, h4, h5, h6⟩ := h
  exact ⟨k, cs, h1, h2, h3, h4, h5, by omega⟩
/-- all but the deck is kept -/
structure Kp (S S' : Sto) (D C : Nat) : Prop where
  le : S.length ≤ S'.length
  get : ∀ n, n < S.length → n ≠ D → n ≠ C → S'[n]? = S[n]?
theorem Kp.refl {S : Sto} {D C : Nat} : Kp S S D C := ⟨Nat.le_refl _, fun _ _ _ _ => rfl⟩
theorem Kp.trans {S S1 S2 : Sto} {D C : Nat} (a : Kp S S1 D C) (b : Kp S1 S2 D C) : Kp S S2 D C := ⟨Nat.le_trans a.le b.le, fun n h d c => by rw [b.get n (Nat.lt_of_lt_of_le h a.le) d c, a.get n h d c]⟩
theorem get_lt {S : Sto} {n : Nat} {o : Ob} (h : S[n]? = some o) : n < S.length := (List.getElem?_eq_some_iff.mp h).1
theorem app_get {S T : Sto} {n : Nat} {o : Ob} (h : S[n]? = some o) : (S ++ T)[n]? = some o := by rw [List.getElem?_append_left (get_lt h)]; exact h
theorem app_new {S : Sto} {o : Ob} : (S ++ [o])[S.length]? = some o := by rw [List.getElem?_append_right (Nat.le_refl _), Nat.sub_self]; rfl
theorem Kp.app {S T : Sto} {D C : Nat} : Kp S (S ++ T) D C := ⟨by rw [List.length_append]; omega, fun n h _ _ => List.getElem?_append_left h⟩
theorem Kp.app2 {S S1 T : Sto} {D C : Nat} (h : Kp S S1 D C) : Kp S (S1 ++ T) D C := h.trans Kp.app
theorem Dk.app {S T : Sto} {D C m : Nat} (h : Dk S D C m) : Dk (S ++ T) D C m := by
  obtain ⟨k, cs, h1, h2, r⟩ := h.ex
  exact ⟨k, cs, app_get h1, app_get h2, r⟩
theorem Dk.ltD {S : Sto} {D C m : Nat} (h : Dk S D C m) : D < S.length := by
  obtain ⟨k, cs, h1, h2, r⟩ := h.ex; exact get_lt h1
theorem Dk.ltC {S : Sto} {D C m : Nat} (h : Dk S D C m) : C < S.length := by
  obtain ⟨k, cs, h1, h2, r⟩ := h.ex; exact get_lt h2
theorem Dk.take {S : Sto} {D C m n : Nat} (h : Dk S D C m) (d : D < n) (c : C < n) : Dk (S.take n) D C m := by
  obtain ⟨k, cs, h1, h2, r⟩ := h.ex
  exact ⟨k, cs, by rw [List.getElem?_take_of_lt d]; exact h1, by rw [List.getElem?_take_of_lt c]; exact h2, r⟩
theorem Kp.take {S S1 : Sto} {D C : Nat} (h : Kp S S1 D C) : Kp S (S1.take S.length) D C := ⟨by rw [List.length_take]; have := h.le; omega, fun n l d c => by rw [List.getElem?_take_of_lt l]; exact h.get n l d c⟩
/-- a call that plays with the deck: m is the bound of what was drawn when it ends; P of the value and the store -/
def Dw {α : Type} (o : Out α) (S : Sto) (D C m : Nat) (P : α → Sto → Prop) : Prop := Wp o fun v S' => Dk S' D C m ∧ Kp S S' D C ∧ P v S'
theorem dw_trm {g : List Val → M Val} {xs : List Val} {S : Sto} {D C m : Nat} {P : Val → Sto → Prop} (hd : D < S.length) (hc : C < S.length) (h : Dw (g xs S) S D C m P)
    (k : ∀ v S1, P v S1 → S.length ≤ S1.length → bel S.length v = true → (S1.take S.length).all (Ob.bel S.length) = true → P v (S1.take S.length)) : Dw (trm g xs S) S D C m P :=
  wp_trm h fun v S1 ⟨a, b, p⟩ e1 e2 => ⟨a.take hd hc, b.take, k v S1 p b.le e1 e2⟩
theorem Dw.mono {α : Type} {o : Out α} {S : Sto} {D C m m' : Nat} {P P' : α → Sto → Prop} (h : Dw o S D C m P) (l : m ≤ m') (k : ∀ v S', P v S' → P' v S') : Dw o S D C m' P' :=
  Wp.mono h fun v S' ⟨a, b, p⟩ => ⟨a.le l, b, k v S' p⟩

/-! ### draws -/
def drawB : SM :=
    (sSeq (sSub (mVar 0) (mC (.int 1)) (mOp gPlus (mOp gIx (mVar 0) (mC (.int 1))) (mC (.int 1))))
    (sSeq (sAsg (.name 2) (mC (.int 0)))
    (sSeq (sAsg (.name 3) (mUn gNeg (mC (.int 1))))
    (sSeq (sIf (mTst (gCmp fun i j => decide (j < i)) (mUn gLen (mOp gIx (mVar 0) (mC (.int 0)))) (mC (.int 0))) (sSeq (sAsg (.name 3) (mOp gMod (mOp gIx (mVar 0) (mC (.int 1))) (mUn gLen (mOp gIx (mVar 0) (mC (.int 0))))))
    (sAsg (.name 2) (mOp gIx (mOp gIx (mVar 0) (mC (.int 0))) (mVar 3)))) sNx)
    (sSeq (sIf (mTst (gCmp fun i j => decide (j ≤ i)) (mVar 2) (mOp gPow (mC (.int 10)) (mC (.int 18)))) (sSeq (sSub (mOp gIx (mVar 0) (mC (.int 0))) (mVar 3) (mOp gDiv (mVar 2) (mVar 1)))
    (sRet (mOp gMod (mVar 2) (mVar 1)))) sNx)
    (sRet (mOp gMod (mOp gMod (mOp gPow (mOp gPlus (mOp gPlus (mOp gMod (mVar 2) (mC (.int 2147483587))) (mOp gTimes (mC (.int 7919)) (mOp gIx (mVar 0) (mC (.int 1))))) (mC (.int 1))) (mC (.int 5))) (mC (.int 2147483647))) (mVar 1))))))))
end Mx

set_option linter.all false
set_option maxRecDepth 100000
set_option maxHeartbeats 4000000
namespace Mx
open L2
theorem set_get_self {S : Sto} {n : Nat} {o o2 : Ob} (h : S[n]? = some o) : (S.set n o2)[n]? = some o2 := List.getElem?_set_self (get_lt h)
theorem set_get_ne {S : Sto} {n m : Nat} {o o2 : Ob} (h : S[n]? = some o) (d : m ≠ n) : (S.set m o2)[n]? = some o := by rw [List.getElem?_set_ne d]; exact h
theorem atI_nat {α : Type} {xs : List α} {i : Int} (h0 : 0 ≤ i) (h : i < xs.length) : ∃ x, atI xs i = some x ∧ xs[i.toNat]? = some x ∧ ixN xs.length i = some i.toNat := by
  have hl : i.toNat < xs.length := by omega
  refine ⟨xs[i.toNat], ?_, List.getElem?_eq_getElem hl, ?_⟩
  · unfold atI ixN
    rw [if_pos h0, if_pos h]
    exact List.getElem?_eq_getElem hl
  · unfold ixN
    rw [if_pos h0, if_pos h]
theorem set_map {cs : List Int} {q : Nat} {c : Int} : (cs.map Val.int).set q (.int c) = (cs.set q c).map Val.int := by rw [List.map_set]
theorem draw_run {S : Sto} {D C m : Nat} {many : Int} (h : Dk S D C m) (hm : m < 2 ^ 40) (h0 : 0 < many) (h1 : many < 2 ^ 40) :
    Dw (runF 2 4 drawB [.loc D, .int many] S) S D C (m + 1) fun v _ => ∃ i : Int, v = .int i ∧ 0 ≤ i ∧ i < many := by
  obtain ⟨k, cs, hD, hC, hp, hn, hk, hkm⟩ := h.ex
  have hD1 : (S.set D (.lst [.loc C, .int (k + 1)]))[D]? = some (.lst [.loc C, .int (k + 1)]) := set_get_self hD
  have hC1 : (S.set D (.lst [.loc C, .int (k + 1)]))[C]? = some (.lst (cs.map .int)) := set_get_ne hC hn
  have hk1 : Kp S (S.set D (.lst [.loc C, .int (k + 1)])) D C := ⟨by rw [List.length_set]; exact Nat.le_refl _, fun n _ d c => List.getElem?_set_ne (Ne.symm d)⟩
  have hd1 : Dk (S.set D (.lst [.loc C, .int (k + 1)])) D C (m + 1) := ⟨k + 1, cs, hD1, hC1, hp, hn, by omega, by omega⟩
  have pow18 : ((10 : Int) ^ (18 : Int).toNat) = 1000000000000000000 := by decide +kernel
  have a0 : ∀ x y : Val, atI [x, y] 0 = some x := fun _ _ => rfl
  have a1 : ∀ x y : Val, atI [x, y] 1 = some y := fun _ _ => rfl
  have i1 : ixN 2 1 = some 1 := rfl
  have hman : many.natAbs < 18446744073709551616 := by omega
  unfold Dw
  by_cases hl : 0 < cs.length
  · have hlI : (0 : Int) < (cs.length : Int) := by omega
    have e0 : 0 ≤ (k + 1) % (cs.length : Int) := Int.emod_nonneg _ (by omega)
    have e1 : (k + 1) % (cs.length : Int) < cs.length := Int.emod_lt_of_pos _ hlI
    obtain ⟨c, c1, c2, c3⟩ := atI_nat (xs := cs) e0 e1
    have c1' : atI (cs.map Val.int) ((k + 1) % (cs.length : Int)) = some (.int c) := by
      obtain ⟨x, x1, x2, x3⟩ := atI_nat (xs := cs.map Val.int) e0 (by rw [List.length_map]; exact e1)
      rw [List.getElem?_map, c2] at x2
      rw [x1, ← x2]; rfl
    have hc0 : 0 ≤ c := hp c (List.mem_of_getElem? c2)
    by_cases hb : (1000000000000000000 : Int) ≤ c
    · have hm2 : ∀ x : Int, 0 ≤ x → 0 ≤ x / many := fun x hx => Int.ediv_nonneg hx (by omega)
      have hS2 : Dk ((S.set D (.lst [.loc C, .int (k + 1)])).set C (.lst ((cs.map Val.int).set ((k + 1) % (cs.length : Int)).toNat (.int (c / many))))) D C (m + 1) := by
        refine ⟨k + 1, cs.set ((k + 1) % (cs.length : Int)).toNat (c / many), set_get_ne hD1 (Ne.symm hn), ?_, ?_, hn, by omega, by omega⟩
        · rw [set_map]; exact set_get_self hC1
        · intro z hz
          rcases List.mem_or_eq_of_mem_set hz with hz | rfl
          · exact hp z hz
          · exact hm2 c hc0
      have hK2 : Kp S ((S.set D (.lst [.loc C, .int (k + 1)])).set C (.lst ((cs.map Val.int).set ((k + 1) % (cs.length : Int)).toNat (.int (c / many))))) D C :=
        ⟨by rw [List.length_set, List.length_set]; exact Nat.le_refl _, fun n a d e => by rw [List.getElem?_set_ne (Ne.symm e), List.getElem?_set_ne (Ne.symm d)]⟩
      have hr : runF 2 4 drawB [.loc D, .int many] S = .ok (.int (c % many)) ((S.set D (.lst [.loc C, .int (k + 1)])).set C (.lst ((cs.map Val.int).set ((k + 1) % (cs.length : Int)).toNat (.int (c / many))))) := by
        simp [runF, drawB, sSeq, sSub, sAsg, sIf, sRet, mOp, mVar, mC, mUn, mTst, gIx, gPlus, gAdd, gLen, gCmp, gNeg, gMod, gPow, gDiv, Out.bind, tgM, hD, hD1, hC1, a0, a1, i1, hl, hlI, c1', c3, hb, h0, pow18, List.length_map, hman]
      exact Wp.of hr ⟨hS2, hK2, _, rfl, Int.emod_nonneg _ (by omega), Int.emod_lt_of_pos _ h0⟩
    · have hr : ∃ z : Int, runF 2 4 drawB [.loc D, .int many] S = .ok (.int (z % many)) (S.set D (.lst [.loc C, .int (k + 1)])) := by
        have hq : (c % 2147483587 + 7919 * (k + 1) + 1).natAbs < 18446744073709551616 := by omega
        simp [runF, drawB, sSeq, sSub, sAsg, sIf, sRet, sNx, mOp, mVar, mC, mUn, mTst, gIx, gPlus, gAdd, gLen, gCmp, gNeg, gMod, gPow, gTimes, gMul, gDiv, Out.bind, tgM, hD, hD1, hC1, a0, a1, i1, hl, hlI, c1', c3, hb, h0, pow18, List.length_map, hq]
        exact ⟨_, rfl⟩
      obtain ⟨z, hr⟩ := hr
      exact Wp.of hr ⟨hd1, hk1, _, rfl, Int.emod_nonneg _ (by omega), Int.emod_lt_of_pos _ h0⟩
  · have hl0 : cs = [] := List.length_eq_zero_iff.mp (by omega)
    subst hl0
    have hr : ∃ z : Int, runF 2 4 drawB [.loc D, .int many] S = .ok (.int (z % many)) (S.set D (.lst [.loc C, .int (k + 1)])) := by
      have hq : (7919 * (k + 1) + 1).natAbs < 18446744073709551616 := by omega
      simp [runF, drawB, sSeq, sSub, sAsg, sIf, sRet, sNx, mOp, mVar, mC, mUn, mTst, gIx, gPlus, gAdd, gLen, gCmp, gNeg, gMod, gPow, gTimes, gMul, gDiv, Out.bind, tgM, hD, hD1, hC1, a0, a1, i1, h0, pow18, List.length_map, hq]
      exact ⟨_, rfl⟩
    obtain ⟨z, hr⟩ := hr
    exact Wp.of hr ⟨hd1, hk1, _, rfl, Int.emod_nonneg _ (by omega), Int.emod_lt_of_pos _ h0⟩
theorem draw_ok {S : Sto} {D C m : Nat} {many : Int} (h : Dk S D C m) (hm : m < 2 ^ 40) (h0 : 0 < many) (h1 : many < 2 ^ 40) :
    Dw (trm (runF 2 4 drawB) [.loc D, .int many] S) S D C (m + 1) fun v _ => ∃ i : Int, v = .int i ∧ 0 ≤ i ∧ i < many :=
  dw_trm h.ltD h.ltC (draw_run h hm h0 h1) fun _ _ p _ _ _ => p
end Mx

set_option linter.all false
set_option maxRecDepth 100000
set_option maxHeartbeats 4000000
namespace Mx
open L2
/-! ### comprehensions and loops, by what holds at each step -/
theorem compI_inv {src : Src} {tg : Tg} {t : Ev → M Bool} {e : Ev → M Val} {env0 : Ev} {xs : List Val} (I : Nat → List Val → Sto → Prop)
    (hi : ∀ i acc S, I i acc S → i < xs.length → src.item S i = xs[i]?) (hf : ∀ acc S, I xs.length acc S → src.fin S = true)
    (step : ∀ i x acc S, xs[i]? = some x → I i acc S → ∃ env2, tgM tg x env0 = some env2 ∧ Wp (t env2 S) fun b S2 => if b = true then Wp (e env2 S2) (fun y S' => acc.length < lim ∧ I (i + 1) (acc ++ [y]) S') else I (i + 1) acc S2) :
    ∀ (r i : Nat) (acc : List Val) (S : Sto), i + r = xs.length → I i acc S → Wp (compI src tg t e env0 r i acc S) fun ys S' => I xs.length ys S'
  | 0, i, acc, S, h, hI => by
    have e : i = xs.length := by omega
    subst e
    unfold compI
    rw [if_pos (hf acc S hI)]
    exact hI
  | r + 1, i, acc, S, h, hI => by
    have hl : i < xs.length := by omega
    have hx : xs[i]? = some xs[i] := List.getElem?_eq_getElem hl
    unfold compI
    rw [hi i acc S hI hl, hx]
    obtain ⟨env2, h1, h2⟩ := step i _ acc S hx hI
    simp only [h1, wp_bind]
    refine Wp.mono h2 fun b S2 h3 => ?_
    by_cases hb : b = true
    · rw [if_pos hb] at h3 ⊢
      rw [wp_bind]
      refine Wp.mono h3 fun y S' ⟨h4, h5⟩ => ?_
      rw [if_pos h4]
      exact compI_inv I hi hf step r (i + 1) _ _ (by omega) h5
    · rw [if_neg hb] at h3 ⊢
      exact compI_inv I hi hf step r (i + 1) _ _ (by omega) h3
/-- one that changes nothing -/
theorem compI_pure {src : Src} {tg : Tg} {t : Ev → M Bool} {e : Ev → M Val} {env0 : Ev} {xs : List Val} {S : Sto} (b : Val → Bool) (f : Val → Val)
    (hi : ∀ i, i < xs.length → src.item S i = xs[i]?) (hf : src.fin S = true)
    (step : ∀ x, x ∈ xs → ∃ env2, tgM tg x env0 = some env2 ∧ t env2 S = .ok (b x) S ∧ (b x = true → e env2 S = .ok (f x) S)) :
    ∀ (r i : Nat) (acc : List Val), i + r = xs.length → acc.length + r ≤ lim → compI src tg t e env0 r i acc S = .ok (acc ++ ((xs.drop i).filter b).map f) S
  | 0, i, acc, h, _ => by
    have e : xs.drop i = [] := List.drop_eq_nil_of_le (by omega)
    unfold compI
    rw [if_pos hf, e]
    simp
  | r + 1, i, acc, h, hl => by
    have hl1 : i < xs.length := by omega
    have hx : xs[i]? = some xs[i] := List.getElem?_eq_getElem hl1
    obtain ⟨env2, h1, h2, h3⟩ := step xs[i] (List.getElem_mem hl1)
    unfold compI
    rw [hi i hl1, hx]
    simp only [h1, h2, Out.bind]
    rw [List.drop_eq_getElem_cons hl1, List.filter_cons]
    by_cases hb : b xs[i] = true
    · rw [if_pos hb, if_pos hb, h3 hb]
      simp only
      rw [if_pos (by omega), compI_pure b f hi hf step r (i + 1) _ (by omega) (by rw [List.length_append]; simp; omega)]
      simp
    · rw [if_neg hb, if_neg hb, compI_pure b f hi hf step r (i + 1) _ (by omega) (by omega)]
theorem forI_inv {src : Src} {tg : Tg} {b : SM} {xs : List Val} (I : Nat → Ev → Sto → Prop) (R : Fl × Ev → Sto → Prop)
    (hi : ∀ i env S, I i env S → i < xs.length → src.item S i = xs[i]?) (hf : ∀ env S, I xs.length env S → src.fin S = true ∧ R (.nx, env) S)
    (step : ∀ i x env S, xs[i]? = some x → I i env S → ∃ env2, tgM tg x env = some env2 ∧ Wp (b env2 S) fun q S' => match q with
      | (.nx, e) => I (i + 1) e S' | (.ct, e) => I (i + 1) e S' | (.bk, e) => R (.nx, e) S' | (.rt x, e) => R (.rt x, e) S') :
    ∀ (r i : Nat) (env : Ev) (S : Sto), i + r = xs.length → I i env S → Wp (forI src tg b r i env S) R
  | 0, i, env, S, h, hI => by
    have e : i = xs.length := by omega
    subst e
    unfold forI
    rw [if_pos (hf env S hI).1]
    exact (hf env S hI).2
  | r + 1, i, env, S, h, hI => by
    have hl : i < xs.length := by omega
    have hx : xs[i]? = some xs[i] := List.getElem?_eq_getElem hl
    unfold forI
    rw [hi i env S hI hl, hx]
    obtain ⟨env2, h1, h2⟩ := step i _ env S hx hI
    simp only [h1, wp_bind]
    refine Wp.mono h2 fun q S2 h3 => ?_
    obtain ⟨q, e⟩ := q
    cases q with
    | nx => exact forI_inv I R hi hf step r (i + 1) _ _ (by omega) h3
    | ct => exact forI_inv I R hi hf step r (i + 1) _ _ (by omega) h3
    | bk => exact h3
    | rt x => exact h3
/-- while, by a measure -/
theorem whileI_inv {t : Ev → M Bool} {b : SM} (I : Nat → Ev → Sto → Prop) (R : Fl × Ev → Sto → Prop)
    (step : ∀ n env S, I n env S → Wp (t env S) fun c S1 => if c = true then Wp (b env S1) (fun q S' => match q with
      | (.nx, e) => ∃ n', n' < n ∧ I n' e S' | (.ct, e) => ∃ n', n' < n ∧ I n' e S' | (.bk, e) => R (.nx, e) S' | (.rt x, e) => R (.rt x, e) S') else R (.nx, env) S1) :
    ∀ (m n : Nat) (env : Ev) (S : Sto), n < m → I n env S → Wp (whileI t b m env S) R
  | 0, n, env, S, h, hI => absurd h (Nat.not_lt_zero _)
  | m + 1, n, env, S, h, hI => by
    unfold whileI
    rw [wp_bind]
    refine Wp.mono (step n env S hI) fun c S1 h1 => ?_
    by_cases hc : c = true
    · rw [if_pos hc] at h1 ⊢
      rw [wp_bind]
      refine Wp.mono h1 fun q S2 h3 => ?_
      obtain ⟨q, e⟩ := q
      cases q with
      | nx => obtain ⟨n', l, k⟩ := h3; exact whileI_inv I R step m n' _ _ (by omega) k
      | ct => obtain ⟨n', l, k⟩ := h3; exact whileI_inv I R step m n' _ _ (by omega) k
      | bk => exact h3
      | rt x => exact h3
    · rw [if_neg hc] at h1 ⊢; exact h1
theorem item_vals {xs : List Val} {S : Sto} {i : Nat} : (Src.vals xs).item S i = xs[i]? := rfl
theorem item_live {xs : List Val} {S : Sto} {n i : Nat} (h : S[n]? = some (.lst xs)) : (Src.live n xs.length).item S i = xs[i]? := by
  simp [Src.item, h]
theorem fin_live {xs : List Val} {S : Sto} {n : Nat} (h : S[n]? = some (.lst xs)) : (Src.live n xs.length).fin S = true := by
  simp [Src.fin, h]
/-! ### the deck, laid -/
def deckB : SM := (sRet (mNew (mLst (mCons (mNew (mLc (mSrc (mSl (mVar 0) mNoPart (mPart (mC (.int 63))))) (.name 1) mYes (mUn gAbs (mVar 1)) [1])) (mCons (mC (.int 0)) mNil)))))
theorem deck_ok {ns : List Int} (h : ns.length ≤ 63) : ∃ S, trm (runF 1 2 deckB) [.kl (ns.map Val.int)] [] = .ok (.loc 2) S ∧ Dk S 2 1 0 ∧ S.length = 3 := by
  obtain ⟨xs, hx⟩ : ∃ xs, xs = cut (ns.map Val.int) none (some 63) := ⟨_, rfl⟩
  have hsub : ∀ x ∈ xs, ∃ i : Int, x = .int i := by
    intro x hm
    rw [hx] at hm
    have := List.mem_of_mem_drop (List.mem_of_mem_take hm)
    obtain ⟨i, _, rfl⟩ := List.mem_map.mp this
    exact ⟨i, rfl⟩
  have hlen : xs.length ≤ 63 := by
    rw [hx, cut, List.length_take, List.length_drop, List.length_map]
    omega
  have hc : compI (.live 0 xs.length) (.name 1) mYes (mUn gAbs (mVar 1)) [some (.kl (ns.map Val.int)), none] xs.length 0 [] [.lst xs]
      = .ok (xs.map fun x => match x with | .int i => .int (if i < 0 then -i else i) | x => x) [.lst xs] := by
    rw [compI_pure (xs := xs) (fun _ => true) (fun x => match x with | .int i => .int (if i < 0 then -i else i) | x => x) (fun i _ => item_live rfl) (fin_live rfl) (fun x hm => ?_) _ _ _ (by omega) (by simp only [List.length_nil, lim]; omega)]
    · rw [List.drop_zero, List.nil_append, List.filter_eq_self.mpr (fun _ _ => rfl)]
    · obtain ⟨i, rfl⟩ := hsub x hm
      exact ⟨_, rfl, rfl, fun _ => rfl⟩
  refine ⟨[.lst xs, .lst (xs.map fun x => match x with | .int i => .int (if i < 0 then -i else i) | x => x), .lst [.loc 1, .int 0]], ?_, ?_, rfl⟩
  · have hr : runF 1 2 deckB [.kl (ns.map Val.int)] [] = .ok (.loc 2) [.lst xs, .lst (xs.map fun x => match x with | .int i => .int (if i < 0 then -i else i) | x => x), .lst [.loc 1, .int 0]] := by
      simp only [runF, deckB, sRet, mNew, mLst, mCons, mLc, mSrc, mSl, mVar, mC, mNoPart, mPart, mNil, Out.bind, gSl, List.length_cons, List.length_nil, List.map_cons, List.map_nil, List.cons_append, List.nil_append, List.getElem?_cons_zero, ← hx, srcOf, wip, Src.size, List.replicate, List.append_nil, ite_true, Nat.zero_add, Nat.reduceSub, Nat.reduceAdd, List.set_cons_succ, List.set_cons_zero, hc, lim, Nat.reduceLeDiff]
    unfold trm
    rw [hr]
    rfl
  · refine ⟨0, xs.map (fun x => match x with | .int i => (if i < 0 then -i else i) | _ => 0), rfl, ?_, ?_, by decide, by decide, by decide⟩
    · show some _ = some _
      rw [List.map_map]
      congr 2
      refine List.map_congr_left fun x hm => ?_
      obtain ⟨i, rfl⟩ := hsub x hm
      rfl
    · intro c hm
      obtain ⟨x, hm2, rfl⟩ := List.mem_map.mp hm
      obtain ⟨i, rfl⟩ := hsub x hm2
      show 0 ≤ (if i < 0 then -i else i)
      split <;> omega
end Mx

set_option linter.all false
set_option maxRecDepth 100000
set_option maxHeartbeats 4000000
namespace Mx
open L2
structure DrS (g : List Val → M Val) : Prop where
  run : ∀ {S : Sto} {D C m : Nat} {many : Int}, Dk S D C m → m < 2 ^ 40 → 0 < many → many < 2 ^ 40 → Dw (g [.loc D, .int many] S) S D C (m + 1) fun v _ => ∃ i : Int, v = .int i ∧ 0 ≤ i ∧ i < many
theorem draw_S : DrS (trm (runF 2 4 drawB)) := ⟨draw_ok⟩
theorem DrS.go {g : List Val → M Val} (h : DrS g) {S : Sto} {D C m : Nat} {many : Int} {Q : Val → Sto → Prop} (d : Dk S D C m) (hm : m < 2 ^ 40) (h0 : 0 < many) (h1 : many < 2 ^ 40)
    (k : ∀ (i : Int) S', 0 ≤ i → i < many → Dk S' D C (m + 1) → Kp S S' D C → Q (.int i) S') : Wp (g [.loc D, .int many] S) Q :=
  Wp.mono (h.run d hm h0 h1) fun v S' ⟨a, b, i, e, c1, c2⟩ => by rw [e]; exact k i S' c1 c2 a b
theorem asStrs_chr : ∀ w : List Nat, asStrs (w.map fun c => Val.str [c]) = some (w.map fun c => [c])
  | [] => rfl
  | c :: w => by rw [List.map_cons, List.map_cons, asStrs, asStrs_chr w]; rfl
theorem joinL_nil : ∀ w : List (List Nat), TL.joinL [] w = w.flatten
  | [] => rfl
  | [p] => by simp [TL.joinL]
  | p :: q :: r => by
    rw [TL.joinL, joinL_nil (q :: r)]
    simp
theorem flat_chr : ∀ w : List Nat, (w.map fun c => [c]).flatten = w
  | [] => rfl
  | c :: w => by rw [List.map_cons, List.flatten_cons, flat_chr w]; rfl
theorem join_chr {w : List Nat} {S : Sto} (h : w.length ≤ lim) : lJoin [] (w.map fun c => Val.str [c]) S = .ok (.str w) S := by
  unfold lJoin
  rw [asStrs_chr]
  simp only
  have e : ∀ w : List Nat, (((w.map fun c => [c]).map List.length).sum) = w.length := by
    intro w
    induction w with
    | nil => rfl
    | cons c w ih => simp only [List.map_cons, List.sum_cons, List.length_cons, List.length_nil] at ih ⊢; omega
  rw [if_pos (by rw [e]; simp only [List.length_nil, Nat.mul_zero, Nat.add_zero]; exact h), joinL_nil, flat_chr]
theorem upTo_len {lo : Int} {n : Nat} : (upTo lo n).length = n := by rw [upTo, List.length_map, List.length_range]
/-- signs drawn from a text, joined -/
theorem draws_chr {g : List Val → M Val} (hg : DrS g) {z : List Nat} {k : Int} {env : Ev} {D C m n j : Nat} {S : Sto} (hz : (z.length : Int) = k) (hz1 : z.length ≤ lim) (hk : 0 < k) (he : env[0]? = some (some (.loc D))) (hj : 0 < j)
    (hd : Dk S D C m) (hm : m + n ≤ 2 ^ 40) (hn : n ≤ lim) :
    Wp (compI (.vals (upTo 0 n)) (.name j) mYes (mOp gIx (mC (.str z)) (mCall g (mCons (mVar 0) (mCons (mC (.int k)) mNil)))) env n 0 [] S)
      fun ys S' => Dk S' D C (m + n) ∧ Kp S S' D C ∧ ∃ w : List Nat, ys = w.map (fun c => Val.str [c]) ∧ w.length = n ∧ ∀ c ∈ w, c ∈ z := by
  have hl : (upTo 0 n).length = n := upTo_len
  refine Wp.mono (compI_inv (xs := upTo 0 n) (fun i ys S' => Dk S' D C (m + i) ∧ Kp S S' D C ∧ ∃ w : List Nat, ys = w.map (fun c => Val.str [c]) ∧ w.length = i ∧ ∀ c ∈ w, c ∈ z) (fun _ _ _ _ _ => rfl) (fun _ _ _ => rfl) (fun i x acc S1 hx hI => ?_) n 0 [] S (by omega) ⟨hd, Kp.refl, [], rfl, rfl, fun _ h => by cases h⟩) fun ys S' h => by rw [hl] at h; exact h
  obtain ⟨d1, k1, w, rfl, w1, w2⟩ := hI
  have hi : i < n := by rw [← hl]; exact (List.getElem?_eq_some_iff.mp hx).1
  have he2 : (env.set j (some x))[0]? = some (some (.loc D)) := by rw [List.getElem?_set_ne (by omega)]; exact he
  refine ⟨env.set j (some x), rfl, ?_⟩
  simp only [mYes, wp_ok, if_true, mOp, mC, mCall, mCons, mVar, mNil, he2, wp_bind]
  refine hg.go d1 (by omega) hk (by have : lim = 100000 := rfl; omega) fun v S2 h0 h1 d2 k2 => ?_
  obtain ⟨c, c1, c2, c3⟩ := atI_nat (xs := z) h0 (by omega)
  simp only [gIx, hz1, if_true, c1, wp_ok]
  refine ⟨by rw [List.length_map, w1]; omega, d2, k1.trans k2, w ++ [c], by simp, by simp [w1], fun y hy => ?_⟩
  rcases List.mem_append.mp hy with hy | hy
  · exact w2 y hy
  · rw [List.mem_singleton.mp hy]; exact List.mem_of_getElem? c2
/-- isinstance, of values whose sort is known -/
def Okv (v : Val) (S : Sto) : Prop := match v with
  | .str z => z.length ≤ lim
  | .loc n => ∃ xs, S[n]? = some (.lst xs)
  | .ext _ => False
  | _ => True
theorem Okv.ty {v : Val} {S : Sto} (h : Okv v S) : ∃ t, tyOf v S = some t ∧ (t = "str" ↔ ∃ z, v = .str z) := by
  cases v with
  | loc n =>
    refine ⟨"list", ?_, by simp⟩
    obtain ⟨xs, this⟩ := h
    simp [tyOf, this]
  | ext a => exact h.elim
  | non => exact ⟨"NoneType", rfl, by simp⟩
  | bl b => exact ⟨"bool", rfl, by simp⟩
  | int b => exact ⟨"int", rfl, by simp⟩
  | str b => exact ⟨"str", rfl, by simp⟩
  | tup b => exact ⟨"tuple", rfl, by simp⟩
  | kl b => exact ⟨"list", rfl, by simp⟩
end Mx

set_option linter.all false
set_option maxRecDepth 100000
set_option maxHeartbeats 4000000
namespace Mx
open L2 PySem
theorem tgM_name (j : Nat) (x : Val) (env : Ev) : tgM (.name j) x env = some (env.set j (some x)) := rfl
theorem tgM_tup (ts : List Tg) (xs : List Val) (env : Ev) : tgM (.tup ts) (.tup xs) env = tgMs ts xs env := rfl
theorem tgMs_nil (env : Ev) : tgMs [] [] env = some env := rfl
theorem tgMs_cons (t : Tg) (ts : List Tg) (x : Val) (xs : List Val) (env : Ev) : tgMs (t :: ts) (x :: xs) env = (tgM t x env).bind fun env2 => tgMs ts xs env2 := rfl
theorem lim_v : lim = 100000 := rfl
theorem eqv_bl (a b : Bool) : PyData.eqv (.bool a) (.bool b) = (a == b) := by simp only [PyData.eqv]
theorem eqv_int (a b : Int) : PyData.eqv (.int a) (.int b) = (a == b) := by simp only [PyData.eqv]
theorem datE_bl (b : Bool) (S : Sto) : datE (.bl b) S = some (.bool b) := rfl
theorem datE_int (b : Int) (S : Sto) : datE (.int b) S = some (.int b) := rfl
theorem datE_str (b : List Nat) (S : Sto) : datE (.str b) S = some (.str ⟨b.toArray⟩) := rfl
theorem dep_bl (a b : Bool) : min (PyData.depth (.bool a)) (PyData.depth (.bool b)) ≤ 64 := by simp only [PyData.depth]; omega
theorem dep_int (a b : Int) : min (PyData.depth (.int a)) (PyData.depth (.int b)) ≤ 64 := by simp only [PyData.depth]; omega
/-- == of two truths, of two numbers -/
theorem eq_bl {neg : Bool} {a b : Ev → M Val} {env : Ev} {S S1 S2 : Sto} {x y : Bool} (h1 : a env S = .ok (.bl x) S1) (h2 : b env S1 = .ok (.bl y) S2) : mEq neg datE datE a b env S = .ok (if neg = true then !(x == y) else x == y) S2 := by
  unfold mEq
  simp only [h1, h2, Out.bind, datE_bl, dep_bl, if_true, eqv_bl]
theorem eq_int {neg : Bool} {a b : Ev → M Val} {env : Ev} {S S1 S2 : Sto} {x y : Int} (h1 : a env S = .ok (.int x) S1) (h2 : b env S1 = .ok (.int y) S2) : mEq neg datE datE a b env S = .ok (if neg = true then !(x == y) else x == y) S2 := by
  unfold mEq
  simp only [h1, h2, Out.bind, datE_int, dep_int, if_true, eqv_int]
theorem dat_chr (f : Nat → Option PyData) : ∀ w : List Nat, datVs f (w.map fun c => Val.str [c]) = some (w.map fun c => PyData.str ⟨#[c]⟩)
  | [] => rfl
  | c :: w => by
    rw [List.map_cons, datVs, dat_chr f w]
    rfl
/-- a list's being [] -/
theorem eq_nil {neg : Bool} {ys : List Val} {ds : List PyData} {a : Ev → M (List Val)} {env : Ev} {S S1 : Sto} (h1 : a env S = .ok ys S1) (hd : datL ys S1 = some (.list ds)) : mEq neg datL datL a (mLst mNil) env S = .ok (if neg = true then !ds.isEmpty else ds.isEmpty) S1 := by
  unfold mEq
  have e : datL [] S1 = some (.list []) := rfl
  simp only [h1, Out.bind, mLst, mNil, List.length_nil, Nat.zero_le, if_true, hd, e]
  have d : min (PyData.depth (.list ds)) (PyData.depth (.list [])) ≤ 64 := by
    have : PyData.depth (.list []) ≤ 64 := by simp [PyData.depth, PyData.depthAll]
    omega
  rw [if_pos d]
  cases ds <;> simp [PyData.eqv, PyData.eqvAll]
theorem cut_len {α : Type} (xs : List α) (lo hi : Option Int) : (cut xs lo hi).length ≤ xs.length := by
  rw [cut, List.length_take, List.length_drop]; omega
theorem flat_len {α : Type} (n : Nat) (x : List α) : (List.replicate n x).flatten.length = n * x.length := by
  induction n with
  | zero => simp
  | succ n ih => rw [List.replicate_succ, List.flatten_cons, List.length_append, ih, Nat.succ_mul]; omega
theorem trm_pure {g : List Val → M Val} {xs : List Val} {S : Sto} {v : Val} (h : g xs S = .ok v S) : trm g xs S = .ok v S := by
  unfold trm
  rw [h]
  simp only [List.take_length]
  split <;> rfl
theorem wip_len (env : Ev) : ∀ l, (wip env l).length = env.length
  | [] => rfl
  | i :: r => by rw [wip, List.length_set, wip_len env r]
theorem app_at {S T : Sto} {k : Nat} : (S ++ T)[S.length + k]? = T[k]? := by rw [List.getElem?_append_right (by omega)]; congr 1; omega
theorem app_at0 {S T : Sto} : (S ++ T)[S.length]? = T[0]? := app_at (k := 0)
theorem app_set {S T : Sto} {k : Nat} {o : Ob} : (S ++ T).set (S.length + k) o = S ++ T.set k o := by rw [List.set_append_right _ _ (by omega)]; congr 2; omega
theorem app_set0 {S T : Sto} {o : Ob} : (S ++ T).set S.length o = S ++ T.set 0 o := app_set (k := 0)
end Mx

set_option linter.all false
set_option maxRecDepth 100000
set_option maxHeartbeats 4000000
namespace Mx
open PySem PySem.Spec PyProof.Rows L2
/-- x is True, x is not True, where x is a truth -/
def gIsB (neg : Bool) : Val → Val → M Bool
  | .bl a, .bl b, S => .ok (if neg = true then !decide (a = b) else decide (a = b)) S
  | _, _, _ => .bad
section
variable {X : Cx} {E : XK}
theorem tsm_isB : TsM X E (compareOp .Is) (gIsB false) := by
  refine ⟨_, op_isBl, fun io H S x y v w Q s rx ry h => ?_⟩
  cases x <;> first | exact h.elim | skip
  cases y <;> first | exact h.elim | skip
  rename_i a b
  cases (show v = .bl a from rx)
  cases (show w = .bl b from ry)
  exact ⟨a, b, rfl, rfl, _, rfl, fin_here h s rfl⟩
theorem tsm_notB : TsM X E (compareOp .IsNot) (gIsB true) := by
  refine ⟨_, op_notBl, fun io H S x y v w Q s rx ry h => ?_⟩
  cases x <;> first | exact h.elim | skip
  cases y <;> first | exact h.elim | skip
  rename_i a b
  cases (show v = .bl a from rx)
  cases (show w = .bl b from ry)
  exact ⟨a, b, rfl, rfl, _, rfl, fin_here h s rfl⟩
end
/-! ### t[::-1] of a tuple -/
section
variable {prog : Program} {w : World} {A : Around} {E : Value → Shared → Prop} {s : Shared}
theorem back_adj (n : Nat) : Builtin.Slice.sliceAdjust none none (-1) (n : Int) = ((n : Int) - 1, -1) := by
  unfold Builtin.Slice.sliceAdjust
  simp
theorem back_pl (n : Nat) : Builtin.Slice.slicePlaces ((n : Int) - 1) (-1) (-1) = n := by
  have h1 : ¬ ((-1 : Int) > 0) := by omega
  unfold Builtin.Slice.slicePlaces
  rw [if_neg h1, Int.neg_neg, Int.ediv_one]
  split <;> omega
theorem back_pick (xs : List Value) : ((List.range xs.length).filterMap fun (m : Nat) => xs.toArray[(((xs.length : Nat) : Int) - 1 + (m : Int) * (-1)).toNat]?) = xs.reverse := by
  have e1 : ∀ k, k ≤ xs.length → ((List.range k).filterMap fun (m : Nat) => xs.toArray[(((xs.length : Nat) : Int) - 1 + (m : Int) * (-1)).toNat]?) = xs.reverse.take k := by
    intro k
    induction k with
    | zero => intro _; rfl
    | succ k ih =>
      intro hk
      rw [List.range_succ, List.filterMap_append, ih (by omega)]
      have hi : (((xs.length : Nat) : Int) - 1 + (k : Int) * (-1)).toNat = xs.length - 1 - k := by omega
      have hl : k < xs.reverse.length := by rw [List.length_reverse]; omega
      rw [List.take_add_one, List.getElem?_eq_getElem hl, List.getElem_reverse]
      simp only [List.filterMap_cons, List.filterMap_nil, hi]
      rw [List.getElem?_toArray, List.getElem?_eq_getElem (by omega)]
      rfl
  have q := e1 xs.length (Nat.le_refl _)
  rw [q]
  exact List.take_of_length_le (by rw [List.length_reverse]; exact Nat.le_refl _)
theorem tup_back {t sl : Addr} {xs : List Value} {vl vu vs : Value} {Q : Value → Shared → Prop} (ht : IsTup s.heap t xs.toArray) (hs : s.heap.IsSliceOf sl vl vu vs) (pl : IsPart vl none) (pu : IsPart vu none) (ps : IsPart vs (some (-1)))
    (hz : xs.length ≤ sizeLine) (h : Q (.ref s.heap.objs.size) { s with heap := s.heap.push { cls := .type "tuple", data := .seq xs.reverse.toArray } }) :
    wpAny (model prog w) A (getItem (.ref t) (.ref sl)) Q E s := by
  obtain ⟨os, hos, hcs, hds⟩ := id hs
  have hT : s.TypeIs (.ref sl) "slice" := ⟨os, hos, hcs⟩
  unfold getItem
  refine wpAny_holding ?_
  first | refine wpAny_bind (wpAny_pure ?_) | skip
  refine wpAny_bind (wpAny_sequenceKey ht.typeIs (by decide) ?_)
  refine wpAny_bind (wpAny_callSpecial?_slot (name := Str.ofString "__getitem__") ht.typeIs PyProof.Rows.slot_tuple_getitem (wpAny_call_entry PyProof.Rows.slot_tuple_getitem ht.typeIs entry_tuple_getitem ?_ (args_tuple_getitem _ _)))
  show wpAny _ _ (Builtin.Tuple.tupleItemsOf (.ref t) >>= _) _ _ s
  refine wpAny_bind (tupleItemsOf_ ht (wpAny_bind (wpAny_typeOf hT ?_)))
  rw [if_pos (by decide), List.size_toArray]
  refine wpAny_bind ?_
  unfold Builtin.Slice.sliceApplied Builtin.Slice.sliceFields
  refine wpAny_bind (wpAny_bind (wpAny_field hos hds (x := vl) rfl (wpAny_bind (wpAny_field hos hds (x := vu) rfl (wpAny_bind (wpAny_field hos hds (x := vs) rfl (wpAny_pure ?_)))))))
  refine wpAny_bind (HT.slicePart_ ps ?_)
  show wpAny _ _ (if ((-1 : Int) == 0) = true then _ else _) _ _ s
  rw [if_neg (by decide)]
  refine wpAny_bind (HT.slicePart_ pl (wpAny_bind (HT.slicePart_ pu (wpAny_bind (wpAny_pure ?_)))))
  show wpAny _ _ (match Builtin.Slice.sliceAdjust none none (-1) ((xs.length : Nat) : Int) with | (lo, hi) => pure (lo, (-1 : Int), Builtin.Slice.slicePlaces lo hi (-1))) _ _ s
  rw [back_adj]
  show wpAny _ _ (pure (((xs.length : Nat) : Int) - 1, (-1 : Int), Builtin.Slice.slicePlaces (((xs.length : Nat) : Int) - 1) (-1) (-1))) _ _ s
  rw [back_pl]
  refine wpAny_pure ?_
  have hno : ¬ ((((xs.length : Nat) : Int) - 1 == 0 && (-1 : Int) == 1 && xs.length == xs.length) = true) := by simp
  show wpAny _ _ (if (((xs.length : Nat) : Int) - 1 == 0 && (-1 : Int) == 1 && xs.length == xs.length) = true then _ else _) _ _ s
  rw [if_neg hno, back_pick]
  have hk : sizeOk (.seq xs.reverse.toArray) := by
    show xs.reverse.toArray.size ≤ sizeLine
    rw [List.size_toArray, List.length_reverse]
    exact hz
  first
    | exact wpAny_bind (m := Builtin.Tuple.tupleExact _) (wpAny_newObj_type (wpAny_pure ⟨_, rfl, wpAny_pure h⟩) hk)
    | exact wpAny_bind (m := Builtin.Tuple.tupleExact _) (wpAny_newObj_type (wpAny_bind (wpAny_pure (wpAny_pure ⟨_, rfl, wpAny_pure h⟩))) hk)
    | exact wpAny_bind (wpAny_bind (m := Builtin.Tuple.tupleExact _) (wpAny_newObj_type (wpAny_pure (wpAny_pure ⟨_, rfl, wpAny_pure h⟩)) hk))
    | exact wpAny_bind (wpAny_bind (m := Builtin.Tuple.tupleExact _) (wpAny_newObj_type (wpAny_pure ⟨_, rfl, wpAny_pure h⟩) hk))
end
def tRevA (K : PySem.W.Frag) (te : TE) : TE := fun σ H Q => te σ H fun x H1 => ∃ a xs, x = .ref a ∧ ((SqL K H1 a xs ∧ ∀ p, H1 p = none → Q (.ref p) (upd H1 p (.lst xs.reverse))) ∨ (SqT K H1 a xs ∧ ∀ p, H1 p = none → Q (.ref p) (upd H1 p (.tup xs.reverse))))
theorem pe_revA {X : Cx} {e : Expr} {te : TE} {k : Nat} {p1 p2 p3 pos : Pos} (he : PE X e te) : PE X (.Subscript e (.Slice none none (some (.UnaryOp .USub (.Constant (.int 1) k p1) p2)) p3) pos) (tRevA X.K te) := by
  refine ⟨fun pins s σ H Q I h => Subscript_ (thn (he.run pins s σ H _ I h) fun v s1 ⟨x, H1, I1, r1, a, xs, ex, q⟩ => ?_)⟩
  subst ex
  cases r1
  have hst : PO X (some (.UnaryOp .USub (.Constant (.int 1) k p1) p2)) (tPart (tUn (rU fun i => .int (-i)) (tC (.int 1)))) := po_some (pe_un un_neg pe_int)
  refine wpAny_Slice (thn (po_none.run pins s1 σ H1 (fun o H2 => o = none ∧ H2 = H1) I1 ⟨rfl, rfl⟩) fun vl s2 ⟨_, H2, I2, pl, el, e2⟩ => ?_)
  subst el; subst e2
  refine thn (po_none.run pins s2 σ H2 (fun o H3 => o = none ∧ H3 = H2) I2 ⟨rfl, rfl⟩) fun vu s3 ⟨_, H3, I3, pu, eu, e3⟩ => ?_
  subst eu; subst e3
  refine thn (hst.run pins s3 σ H3 (fun o H4 => o = some (-1) ∧ H4 = H3) I3 ⟨1, rfl, -1, rfl, rfl, rfl⟩) fun vs s4 ⟨_, H4, I4, ps, eo, e4⟩ => ?_
  subst eo; subst e4
  have I5 : Inv X pins σ H4 { s4 with heap := s4.heap.push { cls := .type "slice", data := .fields #[vl, vu, vs] } } := I4.kept (t' := s4.toks) fun b ob q => Heap.get?_push_of_some _ q
  show wpAny (model X.prog X.w) X.A (subscriptTail e (.Slice none none (some (.UnaryOp .USub (.Constant (.int 1) k p1) p2)) p3) (.ref a) (.ref s4.heap.objs.size)) (EP X pins σ Q) X.xe { s4 with heap := s4.heap.push { cls := .type "slice", data := .fields #[vl, vu, vs] } }
  rcases q with ⟨hx, q⟩ | ⟨hx, q⟩
  · obtain ⟨its, r, ht, hz⟩ := I5.list hx
    have hlen := r.length
    refine tail_any (ops := [.ref a, .ref s4.heap.objs.size]) ht.isList.typeIs (PySem.slot_list_getitem.lookup) (wpAny_getItem_list_slice ht.isList (Heap.IsSliceOf.new _ vl vu vs) pl pu ps (by decide) ?_ (by rw [List.size_toArray]; omega)) (by with_unfolding_all rfl)
    rw [PySem.W.krv_pick]
    exact ⟨.ref _, _, I5.laid (t' := s4.toks) (o := .lst xs.reverse) (fun b ob q => Heap.get?_push_of_some _ q) (Nat.le_refl _) ⟨by rw [List.length_reverse]; exact hz, _, 0, r.reverse, Heap.get?_push_size _ rfl⟩, rfl, q _ (I5.hok.fresh (Nat.le_refl _))⟩
  · obtain ⟨its, r, ht, hz⟩ := I5.tuple hx
    have hlen := r.length
    refine tail_any (ops := [.ref a, .ref s4.heap.objs.size]) ht.typeIs (PyProof.Rows.slot_tuple_getitem.lookup) (tup_back ht (Heap.IsSliceOf.new _ vl vu vs) pl pu ps (by omega) ?_) (by with_unfolding_all rfl)
    exact ⟨.ref _, _, I5.laid (t' := s4.toks) (o := .tup xs.reverse) (fun b ob q => Heap.get?_push_of_some _ q) (Nat.le_refl _) ⟨by rw [List.length_reverse]; exact hz, _, r.reverse, IsTup.new _ _⟩, rfl, q _ (I5.hok.fresh (Nat.le_refl _))⟩
def gRevA : Val → M Val
  | .tup xs, S => .ok (.tup xs.reverse) S
  | x, S => gRev x S
section
variable {X : Cx} {E : XK}
theorem pem_revA {a : Expr} {ma : Ev → M Val} {k : Nat} {p1 p2 p3 pos : Pos} (ha : PEm X E a ma) : PEm X E (.Subscript a (.Slice none none (some (.UnaryOp .USub (.Constant (.int 1) k p1) p2)) p3) pos) (mUn gRevA ma) := by
  obtain ⟨ta, pa, qa⟩ := ha.ex
  refine ⟨_, pe_revA pa, fun io σ H env S Q er sr h => ?_⟩
  refine qa io σ H env S _ er sr (fin_bind h fun x S1 io1 H1 v _ l1 s1 r1 h1 => ?_)
  cases x with
  | loc n =>
    obtain ⟨p, hi, rfl⟩ := r1
    simp only [gRevA, gRev] at h1
    cases eo : S1[n]? with
    | none => simp only [eo] at h1; exact h1.elim
    | some o =>
      have q := s1.is eo hi
      cases o with
      | lst xs =>
        simp only [eo] at h1
        obtain ⟨vs, hv, k⟩ := q
        exact ⟨p, vs, rfl, .inl ⟨SqL.of hv, fun q hq => newL_fin s1 k.rev hq h1⟩⟩
      | _ => first | exact h1.elim | (simp only [eo] at h1; first | exact h1.elim | cases h1) | (dsimp only at h1; exact h1.elim) | cases h1
  | tup xs =>
    obtain ⟨p, vs, rfl, hs, k⟩ := r1
    exact ⟨p, vs, rfl, .inr ⟨hs, fun q hq => newT_fin s1 k.rev hq h1⟩⟩
  | _ => exact h1.elim
end
end Mx

set_option linter.all false
set_option maxRecDepth 100000
set_option maxHeartbeats 4000000
namespace Mx
open PySem PySem.Spec PyProof.Rows L2
def tBd {α : Type} (K : PySem.W.Frag) (AO : List Addr → Hp → α → Addr → Prop) (E : XK) (b : Ev → α → M α) : TB := fun D σ H N => ∃ io env S acc, ER K io H env σ ∧ SR K io H S ∧ AO io H acc D ∧ D ∉ io ∧ FinA K AO E D io H N (b env acc S)
theorem PBm.pbd {α : Type} {Y : Cx} {ws : List Nat} {AO : List Addr → Hp → α → Addr → Prop} {E : XK} {act : Value → Sem Unit} {b : Ev → α → M α} (h : PBm Y ws AO E act b) : PBd Y ws act (tBd Y.K AO E b) := by
  obtain ⟨tb, p, q⟩ := h.ex
  exact ⟨fun D pins s σ H N I ⟨io, env, S, acc, er, sr, ao, hn, h⟩ => p.run D pins s σ H N I (q D io σ H env S acc N er sr ao hn h)⟩
/-! ### lists -/
def AOl (K : PySem.W.Frag) (io : List Addr) (H : Hp) (xs : List Val) (D : Addr) : Prop := ∃ vs, H D = some (.lst vs) ∧ VRs K io H xs vs
theorem aok_l {K : PySem.W.Frag} : AOk K (AOl K) := ⟨fun l hn ⟨vs, e, k⟩ => ⟨vs, (l.fr _ _ e hn).1, VRs.mono l _ _ k⟩, fun l hn ⟨vs, e, _⟩ => (l.fr _ _ e hn).2, fun ⟨vs, e, _⟩ => by rw [e]; intro z; cases z⟩
section
variable {X : Cx} {E : XK} {s0 : Shared} {H0 : Hp} {scope : Scope} {ce : Env} {fq : List Addr}
theorem pbm_app {elt : Expr} {me : Ev → M Val} (he : PEm (X.blk s0 H0 scope ce fq) E elt me) : PBm (X.blk s0 H0 scope ce fq) [] (AOl X.K) E (fun acc => (Kd.l elt).emit acc ce) (bApp me) := by
  obtain ⟨te, p, q⟩ := he.ex
  refine ⟨fun D σ H N => te σ H fun y H4 => ∃ acc, H4 D = some (.lst acc) ∧ acc.length < sizeLine ∧ N (upd H4 D (.lst (acc ++ [y]))), ⟨fun D pins s σ H N I h => ?_⟩, fun D io σ H env S acc N er sr ao hn h => ?_⟩
  · show wpAny _ _ (eval elt ce >>= fun v => call (.builtin "list.append") [.ref D, v] >>= fun _ => pure ()) _ _ s
    refine wpAny_bind (thnF (p.run pins s σ H _ I h) fun v s1 ⟨y, H1, I1, r1, acc, e1, z1, n1⟩ => ?_)
    exact wpAny_bind (app_ok (X := X.blk s0 H0 scope ce fq) I1 e1 z1 r1 fun s2 I2 => wpAny_pure ⟨_, I2, n1⟩)
  · refine q io σ H env S _ er sr (finA_bind h fun y S1 io1 H1 v _ l1 s1 r1 h1 => ?_)
    obtain ⟨vs, e1, k1⟩ := aok_l.mono l1 hn ao
    have n1 := aok_l.out l1 hn ao
    by_cases hl : acc.length < lim
    · rw [if_pos hl] at h1
      refine ⟨vs, e1, by rw [k1.length]; exact lim_lt hl, h1 io1 _ ⟨fun _ _ h => h, acc_tu e1, acc_fz e1, fun a o e k d => ⟨by rw [upd_ne d]; exact e, k⟩⟩ (s1.acc e1 n1) ⟨_, upd_same, (VR.up (acc_tu e1) (acc_fz e1)).2 _ _ (k1.app (VRs.one r1))⟩ n1⟩
    · rw [if_neg hl] at h1
      exact h1.elim
end
section
variable {X : Cx} {E : XK}
theorem ra_rl {e : Expr} {m : Ev → M (List Val)} (h : PXm X E (RA (AOl X.K)) e m) : PLm X E e m := by
  obtain ⟨t, p, q⟩ := h.ex
  exact ⟨t, p, fun io σ H env S Q er sr h => q io σ H env S Q er sr (by
    cases e : m env S with
    | ok xs S1 =>
      rw [e] at h
      exact fun io' H' v l s ⟨D, e1, ⟨vs, e2, k⟩, e3, e4⟩ => h io' H' v l s ⟨D, vs, e1, e2, e3, e4, k⟩
    | err x S1 => rw [e] at h; exact h
    | bad => rw [e] at h; exact h)⟩
def mLc2 (ms : Ev → M Src) (t : Tg) (mt : Ev → M Bool) (ms1 : Ev → M Src) (t1 : Tg) (mt1 : Ev → M Bool) (me : Ev → M Val) (vs vs1 : List Nat) : Ev → M (List Val) := mCo ms t mt (bIn ms1 t1 mt1 (bApp me) vs1) vs []
theorem plm_lc2 {N : List Str} {sc : Scope} {elt tg iter tg1 iter1 : Expr} {ifs ifs1 : List Expr} {scope : Scope} {own : List (Str × Nat)} {vs1 : List Nat} {pos : Pos} {ms ms1 : Ev → M Src} {t t1 : Tg} {mt mt1 : Ev → M Bool} {me : Ev → M Val} (hc : X.calm = true) (hN : X.N.Nodup) (hi : PIm X E tg iter ms) (ok : blkC N sc scope own = true) (eN : X.N = N) (eS : X.env.scope = sc)
    (hg : ∀ (s : Shared) (H : Hp) (C : Addr) (cl : List (Str × Addr)) (fp : List Addr), PGt (X.blk s H scope (compEnvC scope cl C X.env) fp) tg t) (ht : ∀ (s : Shared) (H : Hp) (C : Addr) (cl : List (Str × Addr)) (fp : List Addr), PTsm (X.blk s H scope (compEnvC scope cl C X.env) fp) E ifs mt)
    (hi1 : ∀ (s : Shared) (H : Hp) (C : Addr) (cl : List (Str × Addr)) (fp : List Addr), PIm (X.blk s H scope (compEnvC scope cl C X.env) fp) E tg1 iter1 ms1)
    (hg1 : ∀ (s : Shared) (H : Hp) (C : Addr) (cl : List (Str × Addr)) (fp : List Addr), PGt (X.blk s H scope (compEnvC scope cl C X.env) fp) tg1 t1) (ht1 : ∀ (s : Shared) (H : Hp) (C : Addr) (cl : List (Str × Addr)) (fp : List Addr), PTsm (X.blk s H scope (compEnvC scope cl C X.env) fp) E ifs1 mt1)
    (he : ∀ (s : Shared) (H : Hp) (C : Addr) (cl : List (Str × Addr)) (fp : List Addr), PEm (X.blk s H scope (compEnvC scope cl C X.env) fp) E elt me) (hv : ∀ j ∈ tgS t, j ∈ own.map (·.2)) (hv1 : ∀ j ∈ tgS t1, j ∈ vs1) (hw : ∀ i ∈ vs1, i ∈ own.map (·.2))
    (hs : ∀ x, foldedSetIterable iter X.env x = pure x := by intro _; rfl) (hs1 : ∀ env x, foldedSetIterable iter1 env x = pure x := by intro _ _; rfl) :
    PLm X E (.ListComp elt [⟨tg, iter, ifs, 0⟩, ⟨tg1, iter1, ifs1, 0⟩] scope pos) (mLc2 ms t mt ms1 t1 mt1 me (own.map (·.2)) vs1) := by
  have pb := fun s H C cl fp => (pbm_in (X := X) (E := E) aok_l hc (kd := .l elt) (gs := [⟨tg, iter, ifs, 0⟩, ⟨tg1, iter1, ifs1, 0⟩]) (pos := pos) (by rw [clauses_kd]; rfl) (fun it acc => turn2i ..) (hi1 s H C cl fp) (hg1 s H C cl fp) (ht1 s H C cl fp) (pbm_app (he s H C cl fp)) hv1 (hs1 _)).pbd
  exact ra_rl (pxm_co (kd := .l elt) (act := fun ce acc => innerB (.l elt) [⟨tg, iter, ifs, 0⟩, ⟨tg1, iter1, ifs1, 0⟩] iter1 scope pos acc ce) (ws := vs1) (ho := fun _ => .lst []) (acc0 := []) (b := bIn ms1 t1 mt1 (bApp me) vs1) aok_l (fun io H D _ => ⟨[], upd_same, rfl⟩) new_l hc hN (fun it acc ce => turn2o ..) hi ok eN eS hw hg ht
    (tBd X.K (AOl X.K) E (bIn ms1 t1 mt1 (bApp me) vs1)) pb (fun D io σ H env S acc N er sr ao hn h => ⟨io, env, S, acc, er, sr, ao, hn, h⟩) hv hs)
theorem sw_kd {kd : Kd} {gs : List Comprehension} {scope : Scope} {pos py : Pos} {y : Str} {l : Nat} {env : Env} (hk : env.scope.kind = .function) (hy : env.scope.names.lookup y = some .local) (hl : (py.line == pos.line) = true)
    (ha : (scope.names.any fun (n, k) => n == y && (k == .local || k == .cell)) = false) : swapsWith (kd.mk gs scope pos) (some (.Name y py)) l env = pure true := by
  have ky : env.kindOf y = some .local := hy
  have hb : env.blockKind = .function := by unfold Env.blockKind; rw [hk]; rfl
  cases kd <;> (show swapsWith _ _ _ _ = _; unfold Kd.mk swapsWith; simp only [hb, ky, ha, Expr.pos, hl]; rfl)
/-- y = [.. for .. for ..] -/
theorem psm_setLc2 {N : List Str} {sc : Scope} {j : Nat} {y : Str} {py : Pos} {elt tg iter tg1 iter1 : Expr} {ifs ifs1 : List Expr} {scope : Scope} {own : List (Str × Nat)} {vs1 : List Nat} {pos spos : Pos} {ms ms1 : Ev → M Src} {t t1 : Tg} {mt mt1 : Ev → M Bool} {me : Ev → M Val} (hc : X.calm = true) (hN : X.N.Nodup) (hi : PIm X E tg iter ms) (ok : blkC N sc scope own = true) (eN : X.N = N) (eS : X.env.scope = sc)
    (hg : ∀ (s : Shared) (H : Hp) (C : Addr) (cl : List (Str × Addr)) (fp : List Addr), PGt (X.blk s H scope (compEnvC scope cl C X.env) fp) tg t) (ht : ∀ (s : Shared) (H : Hp) (C : Addr) (cl : List (Str × Addr)) (fp : List Addr), PTsm (X.blk s H scope (compEnvC scope cl C X.env) fp) E ifs mt)
    (hi1 : ∀ (s : Shared) (H : Hp) (C : Addr) (cl : List (Str × Addr)) (fp : List Addr), PIm (X.blk s H scope (compEnvC scope cl C X.env) fp) E tg1 iter1 ms1)
    (hg1 : ∀ (s : Shared) (H : Hp) (C : Addr) (cl : List (Str × Addr)) (fp : List Addr), PGt (X.blk s H scope (compEnvC scope cl C X.env) fp) tg1 t1) (ht1 : ∀ (s : Shared) (H : Hp) (C : Addr) (cl : List (Str × Addr)) (fp : List Addr), PTsm (X.blk s H scope (compEnvC scope cl C X.env) fp) E ifs1 mt1)
    (he : ∀ (s : Shared) (H : Hp) (C : Addr) (cl : List (Str × Addr)) (fp : List Addr), PEm (X.blk s H scope (compEnvC scope cl C X.env) fp) E elt me) (hv : ∀ j ∈ tgS t, j ∈ own.map (·.2)) (hv1 : ∀ j ∈ tgS t1, j ∈ vs1) (hw : ∀ i ∈ vs1, i ∈ own.map (·.2))
    (hy : X.N[j]? = some y := by rfl) (hyl : X.env.scope.names.lookup y = some .local := by rfl) (hsw : swapsWith (Kd.mk (.l elt) [⟨tg, iter, ifs, 0⟩, ⟨tg1, iter1, ifs1, 0⟩] scope pos) (some (.Name y py)) spos.line X.env = pure true := by exact sw_kd rfl rfl rfl (by decide +kernel))
    (hs : ∀ x, foldedSetIterable iter X.env x = pure x := by intro _; rfl) (hs1 : ∀ env x, foldedSetIterable iter1 env x = pure x := by intro _ _; rfl) :
    PSm X E (.Assign [.Name y py] (.ListComp elt [⟨tg, iter, ifs, 0⟩, ⟨tg1, iter1, ifs1, 0⟩] scope pos) spos) (sAsg (.name j) (mNew (mLc2 ms t mt ms1 t1 mt1 me (own.map (·.2)) vs1))) := by
  have pb := fun s H C cl fp => (pbm_in (X := X) (E := E) aok_l hc (kd := .l elt) (gs := [⟨tg, iter, ifs, 0⟩, ⟨tg1, iter1, ifs1, 0⟩]) (pos := pos) (by rw [clauses_kd]; rfl) (fun it acc => turn2i ..) (hi1 s H C cl fp) (hg1 s H C cl fp) (ht1 s H C cl fp) (pbm_app (he s H C cl fp)) hv1 (hs1 _)).pbd
  obtain ⟨wi, pi, q⟩ := co_te (N := N) (sc := sc) (kd := .l elt) (ifs := ifs) (r := [⟨tg1, iter1, ifs1, 0⟩]) (pos := pos) (act := fun ce acc => innerB (.l elt) [⟨tg, iter, ifs, 0⟩, ⟨tg1, iter1, ifs1, 0⟩] iter1 scope pos acc ce) (ws := vs1) (mt := mt) (E := E) (ho := fun _ => .lst []) (acc0 := []) (b := bIn ms1 t1 mt1 (bApp me) vs1) (scope := scope) aok_l (fun io H D _ => ⟨[], upd_same, rfl⟩) hi hg hv
  refine ⟨_, ps_setCo (kd := .l elt) (g := tgT X.K t) (tt := tT X.K E mt) (act := fun ce acc => innerB (.l elt) [⟨tg, iter, ifs, 0⟩, ⟨tg1, iter1, ifs1, 0⟩] iter1 scope pos acc ce) (ws := vs1) (tb := tBd X.K (AOl X.K) E (bIn ms1 t1 mt1 (bApp me) vs1)) new_l hc hN hy hyl hsw (fun it acc ce => turn2o ..) pi (blkOk_by (by rw [eN, eS]; exact ok)) hw (fun s H C cl fp => (hg s H C cl fp).pg) (fun s H C cl fp => (ht s H C cl fp).pt) pb hs, fun io σ H env S D er sr h => ?_⟩
  refine asg_run (t := .name j) (me := mNew (mLc2 ms t mt ms1 t1 mt1 me (own.map (·.2)) vs1)) (fun io σ H env S Q er sr h => ?_) er sr h
  refine q _ (fun D io σ H env S acc N er sr ao hn h => ⟨io, env, S, acc, er, sr, ao, hn, h⟩) io σ H env S Q er sr (fin_bind h fun xs S1 io1 H1 v eo l1 s1 r1 _ => ?_)
  obtain ⟨a, rfl, ⟨vs, hv, k⟩, hb, hi⟩ := r1
  have h2 : FinG X.K (VR X.K) E io H Q (mNew (mLc2 ms t mt ms1 t1 mt1 me (own.map (·.2)) vs1) env S) := h
  unfold mNew at h2
  rw [show mLc2 ms t mt ms1 t1 mt1 me (own.map (·.2)) vs1 env S = _ from eo] at h2
  refine fin_ok h2 (l1.own hb hi) (s1.own hi hv k) ⟨a, ?_, rfl⟩
  rw [← s1.len, List.getElem?_append_right (Nat.le_refl _), Nat.sub_self]
  rfl
end
end Mx

set_option linter.all false
set_option maxRecDepth 100000
set_option maxHeartbeats 4000000
namespace Mx
open PySem PySem.Spec PyProof.Rows L2
/-! ### sets of numbers and texts, with what a walk over them needs -/
def kOf : Value → Key
  | .int i _ => .inl i
  | .str x _ => .inr x
  | _ => .inl 0
theorem kOf_is {k : Key} {v : Value} (h : keyIs k v = true) : kOf v = k ∧ v.scannable = true := by
  rcases keyIs_shape h with ⟨i, t, rfl, rfl⟩ | ⟨x, t, rfl, rfl⟩ <;> exact ⟨rfl, rfl⟩
def GoodM (w : World) (e : Int × Value) : Prop := keyIs (kOf e.2) e.2 = true ∧ e.1 = keyH w (kOf e.2)
section
variable {P : Program} {w : World} {h h' : Heap} {a : Addr} {L : List Key} {A : Around} {E : Value → Shared → Prop} {s : Shared}
/-- what the set at a holds: the keys L, each once -/
def SetL (w : World) (h : Heap) (a : Addr) (L : List Key) : Prop :=
  ∃ o es ep t, h.get? a = some o ∧ o.ExactSet ∧ o.data = .set es ep t ∧ (∀ e ∈ es.toList, GoodM w e) ∧ (es.toList.map fun e => kOf e.2).Perm L ∧ L.Nodup ∧ es.size < scanBound ∧ t.fits es.size = true ∧ Ris t.place.toList ∧
    (w.params.followText "set-order" = true ∨ t.led = true)
theorem SetL.at (R : SetL w h a L) (k : ∀ o, h.get? a = some o → h'.get? a = some o) : SetL w h' a L := by
  obtain ⟨o, es, ep, t, ho, r⟩ := R
  exact ⟨o, es, ep, t, k o ho, r⟩
theorem goodM_el {es : List (Int × Value)} (g : ∀ e ∈ es, GoodM w e) : ElemsOf (mixKind P w) es := fun e he => ⟨⟨kOf e.2, (g e he).1, (g e he).2⟩, (kOf_is (g e he).1).2⟩
theorem goodM_mem {es : List (Int × Value)} (g : ∀ e ∈ es, GoodM w e) (k : Key) : k ∈ es.map (fun e => kOf e.2) ↔ ∃ e ∈ es, keyIs k e.2 = true := by
  rw [List.mem_map]
  exact ⟨fun ⟨e, he, q⟩ => ⟨e, he, by rw [← q]; exact (g e he).1⟩, fun ⟨e, he, q⟩ => ⟨e, he, (kOf_is q).1⟩⟩
theorem SetL.len (R : SetL w h a L) : L.length < scanBound := by
  obtain ⟨o, es, ep, t, ho, hex, hd, g, pm, nd, hb, _⟩ := R
  rw [← pm.length_eq, List.length_map, Array.length_toList]
  exact hb
def memK (L : List Key) (k : Key) : Bool := L.any fun j => decide (j = k)
theorem memK_iff {L : List Key} {k : Key} : memK L k = true ↔ k ∈ L := by
  unfold memK
  rw [List.any_eq_true]
  exact ⟨fun ⟨j, h, e⟩ => of_decide_eq_true e ▸ h, fun h => ⟨k, h, decide_eq_true rfl⟩⟩
theorem SetL.setOf (R : SetL w h a L) : h.SetOf (mixKind P w) a (memK L) L.length := by
  obtain ⟨o, es, ep, t, ho, hex, hd, g, pm, nd, hb, hf, hr, hl⟩ := R
  refine ⟨o, es, ep, t, ho, hex, hd, goodM_el g, fun k => ?_, hb, hf, ?_⟩
  · rw [memK_iff, ← pm.mem_iff]
    exact goodM_mem g k
  · rw [← pm.length_eq, List.length_map, Array.length_toList]
def addK (L : List Key) (k : Key) : List Key := if memK L k = true then L else L ++ [k]
theorem addK_nodup {L : List Key} {k : Key} (h : L.Nodup) : (addK L k).Nodup := by
  unfold addK
  by_cases hk : memK L k = true
  · rw [if_pos hk]; exact h
  · rw [if_neg hk]
    have hk : k ∉ L := fun z => hk (memK_iff.mpr z)
    exact List.nodup_append.mpr ⟨h, by simp, fun x hx y hy e => hk (by rw [List.mem_singleton.mp hy] at e; rw [← e]; exact hx)⟩
theorem setL_tail {g : Bool → Sem Unit} (hg : ∀ (b : Bool) (s1 : Shared) (Q' : Unit → Shared → Prop), Q' () s1 → wpAny (model P w) A (g b) Q' E s1) {o : Obj} {es : Array (Int × Value)} {ep : Nat} {t : SetTable} (ho : s.heap.get? a = some o) (hex : o.ExactSet) (hd : o.data = .set es ep t)
    {es1 : Array (Int × Value)} {t2 : SetTable} (g1 : ∀ e ∈ es1.toList, GoodM w e) (pm : (es1.toList.map fun e => kOf e.2).Perm L) (nd : L.Nodup) (hb : es1.size < scanBound) (hf : t2.fits es1.size = true) (hr : Ris t2.place.toList) (hl : w.params.followText "set-order" = true ∨ t2.led = true)
    {wasDummy : Bool} {R : Option Bool → Shared → Prop} (hR : ∀ h', Heap.SameBut a s.heap h' → SetL w h' a L → R (some true) { s with heap := h' }) :
    wpAny (model P w) A (storeSet a es1 t2 >>= fun _ => if (!wasDummy && t2.tooFull) = true then (g (relayAll t2 es1 (SetTable.grown es1.size)).2.2 >>= fun _ => storeSet a (relayAll t2 es1 (SetTable.grown es1.size)).1 (relayAll t2 es1 (SetTable.grown es1.size)).2.1 >>= fun _ => pure (some true)) else pure (some true)) R E s := by
  refine wpAny_bind (wpAny_storeSet_of ho hd ?_ (fits_of_scanBound hb))
  have ho1 := store_at (es' := es1) (t' := t2) ho hd
  have sb1 := Heap.SameBut.update s.heap a (Obj.putSet es1 t2)
  split
  · have q1 := relayAll_perm t2 es1 (SetTable.grown es1.size)
    have q2 := relayAll_fits t2 es1 (SetTable.grown es1.size)
    have q3 := relayAll_ris t2 es1 (SetTable.grown es1.size)
    have q4 := relayAll_led t2 es1 (SetTable.grown es1.size)
    generalize relayAll t2 es1 (SetTable.grown es1.size) = Z at q1 q2 q3 q4 ⊢
    obtain ⟨es2, t3, gave⟩ := Z
    have hz : es2.size = es1.size := by rw [← Array.length_toList, ← Array.length_toList]; exact q1.length_eq
    have hb2 : es2.size < scanBound := hz ▸ hb
    refine wpAny_bind (hg _ _ _ (wpAny_bind (wpAny_storeSet_of ho1 rfl ?_ (fits_of_scanBound hb2))))
    refine wpAny_pure (hR _ (sb1.trans (Heap.SameBut.update _ a _)) ⟨_, es2, _, t3, store_at (es' := es2) (t' := t3) ho1 rfl, hex, rfl, fun e he => g1 e (q1.mem_iff.mp he), (q1.map _).trans pm, nd, hb2, q2, q3, hl.imp id fun z => by rw [q4]; exact z⟩)
  · exact wpAny_pure (hR _ sb1 ⟨_, es1, _, t2, ho1, hex, rfl, g1, pm, nd, hb, hf, hr, hl⟩)
theorem setL_add {k : Key} {x : Value} {Q : Bool → Shared → Prop} (hx : keyIs k x = true) (R : SetL w s.heap a L) (room : L.length + 1 < scanBound)
    (hQ : ∀ h' b, Heap.SameBut a s.heap h' → SetL w h' a (addK L k) → Q b { s with heap := h' }) : wpAny (model P w) A (setAddHashed a x (keyH w k)) Q E s := by
  obtain ⟨o, es, ep, t, ho, hex, hd, g, pm, nd, hb, hf, hr, hl⟩ := R
  have hkey : (mixKind P w).is k x = true := hx
  have hsc := (kOf_is hx).2
  have hel : ElemsOf (mixKind P w) es.toList := goodM_el g
  unfold setAddHashed setAddHashedIn
  refine wpAny_holding (wpAny_bind (wpAny_setState_of ho hd hf ?_))
  dsimp only
  rw [byScan_of hsc hb hel]
  simp only [↓reduceIte]
  unfold setAddByScan
  refine wpAny_bind (wpAny_bind (wpAny_rule (wpAny_bind (wpAny_setScan_of hkey ho hd hf hel ?_))))
  cases hfi : List.findIdx? (fun e => (mixKind P w).is k e.2) es.toList with
  | some j =>
    dsimp only
    obtain ⟨hj, pj, _⟩ := List.findIdx?_eq_some_iff_getElem.mp hfi
    have hk : k ∈ L := pm.mem_iff.mp ((goodM_mem g k).2 ⟨es.toList[j], List.getElem_mem hj, pj⟩)
    refine wpAny_pure (wpAny_pure (hQ s.heap _ (Heap.SameBut.refl a s.heap) ?_))
    unfold addK
    rw [if_pos (memK_iff.mpr hk)]
    exact ⟨o, es, ep, t, ho, hex, hd, g, pm, nd, hb, hf, hr, hl⟩
  | none =>
    dsimp only
    have hk : k ∉ L := fun z => by
      obtain ⟨e, he, q⟩ := (goodM_mem g k).1 (pm.mem_iff.mpr z)
      have c := List.findIdx?_eq_none_iff.mp hfi e he
      rw [show (mixKind P w).is k e.2 = true from q] at c
      cases c
    have gw : ∀ (b : Bool) {s1 : Shared} {Q' : Unit → Shared → Prop}, Q' () s1 → wpAny (model P w) A (match b with | true => rule "set.scan.the-table-gave-way" | false => pure ()) Q' E s1 := fun b s1 Q' q => by cases b <;> first | exact wpAny_pure q | exact wpAny_rule q
    have q1 := layNew_perm t es (keyH w k) x
    have q2 := layNew_fits t es (keyH w k) x
    have q3 := layNew_ris t es (keyH w k) x hr
    have q4 := layNew_led t es (keyH w k) x
    generalize layNew t es (keyH w k) x = Z at q1 q2 q3 q4 ⊢
    obtain ⟨es1, t1, wasDummy, gave⟩ := Z
    dsimp only at q1 q2 q3 q4 ⊢
    rw [Array.toList_push] at q1
    have pc : es1.toList.Perm ((keyH w k, x) :: es.toList) := q1.trans (List.perm_append_singleton _ _)
    have g1 : ∀ e ∈ es1.toList, GoodM w e := fun e he => by
      rcases List.mem_cons.mp (pc.mem_iff.mp he) with z | z
      · rw [z]
        unfold GoodM
        rw [(kOf_is hx).1]
        exact ⟨hx, rfl⟩
      · exact g e z
    have p1 : (es1.toList.map fun e => kOf e.2).Perm (L ++ [k]) := by
      have := pc.map fun e => kOf e.2
      rw [List.map_cons, (kOf_is hx).1] at this
      exact this.trans ((pm.cons k).trans (List.perm_append_singleton _ _).symm)
    have n1 : (L ++ [k]).Nodup := by have := addK_nodup (k := k) nd; unfold addK at this; rw [if_neg fun z => hk (memK_iff.mp z)] at this; exact this
    have b1 : es1.size < scanBound := by
      have := p1.length_eq
      rw [List.length_map, Array.length_toList, List.length_append, List.length_singleton] at this
      omega
    have l1 : w.params.followText "set-order" = true ∨ t1.led = true := hl.imp id fun z => by rw [q4]; exact z
    have fin : ∀ h', Heap.SameBut a s.heap h' → SetL w h' a (L ++ [k]) → Q true { s with heap := h' } := fun h' sb r => hQ h' true sb (by unfold addK; rw [if_neg fun z => hk (memK_iff.mp z)]; exact r)
    refine wpAny_bind (gw _ ?_)
    split
    · refine wpAny_bind ?_
      rw [hashByValue_scannable 8 hsc]
      refine wpAny_pure (setL_tail ?_ ho hex hd g1 p1 n1 b1 ?_ ?_ ?_ ?_)
      · intro b s1 Q' q; cases b <;> first | exact wpAny_pure q | exact wpAny_rule q
      · first | (split <;> first | exact q2 | exact SetTable.fits_plain_off q2) | exact q2
      · first | (split <;> exact q3) | exact q3
      · first | (split <;> exact l1) | exact l1
      · intro h' sb r; dsimp only; exact wpAny_pure (fin h' sb r)
    · refine wpAny_bind (wpAny_pure ?_)
      simp only [↓reduceIte]
      refine setL_tail ?_ ho hex hd g1 p1 n1 b1 q2 q3 l1 ?_
      · intro b s1 Q' q; cases b <;> first | exact wpAny_pure q | exact wpAny_rule q
      · intro h' sb r; dsimp only; exact wpAny_pure (fin h' sb r)
end
end Mx

set_option linter.all false
set_option maxRecDepth 100000
set_option maxHeartbeats 4000000
namespace Mx
open PySem PySem.Spec PyProof.Rows L2
def addAll (L : List Key) (ks : List Key) : List Key := ks.foldl addK L
theorem addAll_snoc (L ks : List Key) (k : Key) : addAll L (ks ++ [k]) = addK (addAll L ks) k := by unfold addAll; rw [List.foldl_append]; rfl
theorem addK_len (L : List Key) (k : Key) : (addK L k).length ≤ L.length + 1 := by
  unfold addK
  split
  · omega
  · rw [List.length_append]; exact Nat.le_refl _
theorem addAll_len : ∀ (ks L : List Key), (addAll L ks).length ≤ L.length + ks.length
  | [], L => Nat.le_refl _
  | k :: ks, L => by
    have := addAll_len ks (addK L k)
    have h2 := addK_len L k
    rw [List.length_cons]
    show (addAll (addK L k) ks).length ≤ _
    omega
section
variable {P : Program} {w : World} {A : Around} {E : Value → Shared → Prop} {s : Shared}
abbrev set0 (w : World) : Obj := { cls := .type "set", dict := none, data := .set #[] 0 (.fresh 0 0 (!w.params.followText "set-order")) }
theorem setL_new {h : Heap} {a : Addr} (ho : h.get? a = some (set0 w)) : SetL w h a [] := by
  refine ⟨_, #[], 0, _, ho, ⟨rfl, rfl, rfl⟩, rfl, fun e he => by simp at he, List.Perm.refl _, List.Pairwise.nil, by decide, by rfl, List.Pairwise.nil, ?_⟩
  show _ ∨ (!w.params.followText "set-order") = true
  cases w.params.followText "set-order"
  · exact .inr rfl
  · exact .inl rfl
theorem setL_update {I : Addr} {fp wr : List Addr} {G : Array GenState → Array GenState → Prop} {n : Nat} {Pv : Nat → Value → Prop} {St : Nat → Shared → Prop} {R : Result → Shared → Prop}
    (W : WalksS P w A.in1 I fp wr G n Pv St) (D : Addr) (hD : D ∉ fp) (ks : List Key) (hn : n = ks.length) (hb : ks.length + 1 < scanBound) (hval : ∀ i v, Pv i v → ∃ k, ks[i]? = some k ∧ keyIs k v = true) :
    ∀ (r i : Nat) (s : Shared), n - i = r → i ≤ n → St i s → SetL w s.heap D (addAll [] (ks.take i)) → (∀ s', Moved (D :: wr) G s s' → SetL w s'.heap D (addAll [] ks) → R (.ok (.ret .none)) s') →
      codeAny (model P w) A (.builtin "set.update.loop" ⟨[.ref D, .ref I], []⟩) R s := by
  have hDw : D ∉ wr := fun h => hD (W.sub _ h)
  have hsub : ∀ b ∈ wr, b ∈ D :: wr := fun b hb => List.mem_cons_of_mem _ hb
  intro r
  induction r with
  | zero =>
    intro i s hr hi hst hS hR
    have e0 : i = n := by omega
    subst e0
    refine codeAny_builtin F.entry_set_update_loop ?_
    rw [Around.under_plainId F.plain_set_update_loop _]
    show wpAny _ A.in1 (pyNext (.ref I) >>= _) _ _ s
    refine wpAny_bind (W.done s _ _ hst fun s' hm => ?_)
    have e : ks.take i = ks := List.take_of_length_le (by omega)
    rw [e] at hS
    show wpAny _ A.in1 (ret Value.none) _ _ s'
    exact wpAny_pure (hR s' (hm.mono hsub) (hS.at fun o e => hm.heap D o hDw e))
  | succ r ih =>
    intro i s hr hi hst hS hR
    have hlt : i < n := by omega
    refine codeAny_builtin F.entry_set_update_loop ?_
    rw [Around.under_plainId F.plain_set_update_loop _]
    show wpAny _ A.in1 (pyNext (.ref I) >>= _) _ _ s
    refine wpAny_bind (W.item i s _ _ hlt hst fun v s' hP hst' hm => ?_)
    obtain ⟨k, hk, hv⟩ := hval i v hP
    have hS' : SetL w s'.heap D (addAll [] (ks.take i)) := hS.at fun o e => hm.heap D o hDw e
    show wpAny _ A.in1 (holding [v] (setAdd D v) >>= _) _ _ s'
    refine wpAny_bind (wpAny_holding ?_)
    unfold setAdd
    refine wpAny_holding (wpAny_bind ((mixKind P w).pyHash (k := k) hv ?_))
    have lenB := addAll_len (ks.take i) []
    rw [List.length_nil, List.length_take] at lenB
    refine setL_add (s := { s' with toks := s'.toks + 1 }) hv hS' (by omega) fun h' b sb S2 => ?_
    have e2 : addK (addAll [] (ks.take i)) k = addAll [] (ks.take (i + 1)) := by rw [List.take_add_one, hk]; exact (addAll_snoc ..).symm
    rw [e2] at S2
    refine wpAny_pure ⟨plainId_quiet F.plain_set_update_loop _, ih (i + 1) _ (by omega) hlt (W.frame _ s' _ _ hst' (Nat.le_succ _) fun c hc o e => ?_) S2 fun s'' hm'' hS'' => hR s'' (Moved.trans W.gtrans ((hm.mono hsub).then_heap (Nat.le_succ _) fun c o hc e => ?_) hm'') hS''⟩
    · rw [sb.2 c (fun h : c = D => hD (by rw [← h]; exact hc))]; exact e
    · rw [sb.2 c (fun h : c = D => hc (by rw [h]; exact List.mem_cons_self))]; exact e
theorem call_set_tup {l : Addr} {items : Array Value} (ks : List Key) {Q : Value → Shared → Prop} (hh : A.handled = none) (hl : s.heap.IsTuple l items) (hit : ∀ (i : Nat) (v : Value), items[i]? = some v → ∃ k, ks[i]? = some k ∧ keyIs k v = true) (hisz : items.size = ks.length) (hb : ks.length + 1 < scanBound)
    (h : ∀ (h' : Heap) (tk : Nat), SetL w h' s.heap.objs.size (addAll [] ks) → (∀ b o, s.heap.get? b = some o → h'.get? b = some o) → Q (.ref s.heap.objs.size) { s with heap := h', toks := tk }) :
    wpAny (model P w) A (call (.type "set") [.ref l]) Q E s := by
  obtain ⟨c, tl, hmro⟩ := F.called_set.mro
  have hmade := F.called_set.made
  have hsub := F.called_set.sub
  have kp : ∀ (x : Obj) b o, s.heap.get? b = some o → (s.heap.push x).get? b = some o := fun x b o e => Heap.get?_push_of_some _ e
  refine wpAny_call (codeAny_of_tree ?_)
  show wpAny _ _ (callAny (.type "set") _) _ _ _
  refine wpAny_pure ⟨Code.quiet_builtin _ (by decide +kernel), codeAny_builtin F.entry_type_call ?_⟩
  rw [Around.under_plain (weight_type_call_type "set" [.ref l] []) rfl]
  have h1 := F.called_set.notType
  have h2 := F.called_set.canCreate
  have hct := F.typeCall_set_1 (.ref l)
  repeat (any_goals (first | assumption | wp_step))
  refine codeAny_mono (code_set_led1 (.ref l) (E := E) (Q₁ := fun obj s1 => obj = .ref s.heap.objs.size ∧ s1 = { s with heap := s.heap.push (set0 w) }) ⟨rfl, rfl⟩) fun r s1 hr => ?_
  cases r with
  | error e => exact hr
  | ok fl =>
    cases fl with
    | ret obj =>
      obtain ⟨rfl, rfl⟩ := hr
      have hS : (s.heap.push (set0 w)).get? s.heap.objs.size = some (set0 w) := Heap.get?_push_size _ rfl
      have hT : Shared.TypeIs { s with heap := s.heap.push (set0 w) } (.ref s.heap.objs.size) "set" := ⟨_, hS, rfl⟩
      have hli := F.called_set.init.lookup
      have hbi := F.called_set.init.bind (.ref s.heap.objs.size)
      repeat (any_goals (first | assumption | wp_step))
      refine codeAny_mono (codeAny_call_builtin (R := wants (fun r s2 => r = .none ∧ ∃ h' tk, s2 = { s with heap := h', toks := tk } ∧ SetL w h' s.heap.objs.size (addAll [] ks) ∧ ∀ b o, s.heap.get? b = some o → h'.get? b = some o) E) F.called_set.init.plain F.entry_set_init (check_set_init_1 hT ?_)) fun r2 s2 hr2 => ?_
      · obtain ⟨ol, hol, hcl, nl, hdl⟩ := hl
        obtain ⟨ocls, odict, odata, oslots⟩ := ol
        simp only at hcl hdl
        subst hcl; subst hdl
        have hol' : (s.heap.push (set0 w)).get? l = some { cls := .type "tuple", dict := odict, data := .seq items nl, slots := oslots } := kp _ _ _ hol
        have z1 := F.sub_tuple_set
        have z2 := F.sub_tuple_frozenset
        have z3 : (Value.type "tuple" == Value.type "dict") = false := by decide
        have hl1 : (s.heap.push (set0 w)).IsTuple l items := ⟨_, hol', rfl, nl, rfl⟩
        unfold Builtin.«set.__init__» noKeywords Builtin.Frozenset.updateFrom
        generalize hPI : pyIter = PI
        wp_walk
        subst hPI
        refine wpAny_pyIter_tuple hl1 (wpAny_bind (wpAny_runValue ?_))
        have hlS : l < s.heap.objs.size := Heap.lt_size hol
        have hz : (s.heap.push (set0 w)).objs.size = s.heap.objs.size + 1 := Heap.size_push ..
        have hneI : l ≠ (s.heap.push (set0 w)).objs.size := by rw [hz]; exact Nat.ne_of_lt (Nat.lt_succ_of_lt hlS)
        have hSf : s.heap.objs.size ∉ [(s.heap.push (set0 w)).objs.size, l] := by
          rw [hz]; simp only [List.mem_cons, List.not_mem_nil, or_false, not_or]
          exact ⟨Nat.ne_of_lt (Nat.lt_succ_self _), Nat.ne_of_gt hlS⟩
        refine setL_update ((Walks.tuple (by simp [hh]) _ l hneI items).toS) s.heap.objs.size hSf ks hisz hb hit (items.size - 0) 0 _ (by omega) (Nat.zero_le _) ⟨⟨_, Heap.get?_push_size _ rfl, rfl, rfl⟩, (hl1.push _)⟩ (setL_new (Heap.get?_push_of_some _ hS)) ?_
        intro s' hm hS'
        obtain ⟨h', g2, d', tk', os'⟩ := s'
        have eg : g2 = s.gens := hm.gens
        have ed : d' = s.drawn := hm.drawn
        have eo : os' = s.os := hm.os
        subst eg; subst ed; subst eo
        show wpAny _ _ _ _ _ _
        refine wpAny_pure ?_
        show wpAny _ _ (ret Value.none) _ _ _
        refine wpAny_pure ⟨rfl, h', tk', rfl, hS', fun b o e => ?_⟩
        have hb0 : b < s.heap.objs.size := Heap.lt_size e
        exact hm.heap b o (by
          simp only [List.mem_cons, List.not_mem_nil, or_false, not_or]
          exact ⟨Nat.ne_of_lt hb0, by rw [hz]; exact Nat.ne_of_lt (Nat.lt_succ_of_lt hb0)⟩) (Heap.get?_push_of_some _ (kp _ _ _ e))
      · cases r2 with
        | error e => exact hr2
        | ok fl2 =>
          cases fl2 with
          | ret r =>
            obtain ⟨rfl, h', tk, rfl, hS', hk'⟩ := hr2
            repeat (any_goals (first | assumption | wp_step))
            exact h _ _ hS' hk'
          | _ => exact hr2.elim
    | _ => exact hr.elim
theorem call_set_list {l : Addr} {items : Array Value} (ks : List Key) {Q : Value → Shared → Prop} (hh : A.handled = none) (hl : s.heap.IsList l items) (hit : ∀ (i : Nat) (v : Value), items[i]? = some v → ∃ k, ks[i]? = some k ∧ keyIs k v = true) (hisz : items.size = ks.length) (hb : ks.length + 1 < scanBound)
    (h : ∀ (h' : Heap) (tk : Nat), SetL w h' s.heap.objs.size (addAll [] ks) → (∀ b o, s.heap.get? b = some o → h'.get? b = some o) → Q (.ref s.heap.objs.size) { s with heap := h', toks := tk }) :
    wpAny (model P w) A (call (.type "set") [.ref l]) Q E s := by
  obtain ⟨c, tl, hmro⟩ := F.called_set.mro
  have hmade := F.called_set.made
  have hsub := F.called_set.sub
  have kp : ∀ (x : Obj) b o, s.heap.get? b = some o → (s.heap.push x).get? b = some o := fun x b o e => Heap.get?_push_of_some _ e
  refine wpAny_call (codeAny_of_tree ?_)
  show wpAny _ _ (callAny (.type "set") _) _ _ _
  refine wpAny_pure ⟨Code.quiet_builtin _ (by decide +kernel), codeAny_builtin F.entry_type_call ?_⟩
  rw [Around.under_plain (weight_type_call_type "set" [.ref l] []) rfl]
  have h1 := F.called_set.notType
  have h2 := F.called_set.canCreate
  have hct := F.typeCall_set_1 (.ref l)
  repeat (any_goals (first | assumption | wp_step))
  refine codeAny_mono (code_set_led1 (.ref l) (E := E) (Q₁ := fun obj s1 => obj = .ref s.heap.objs.size ∧ s1 = { s with heap := s.heap.push (set0 w) }) ⟨rfl, rfl⟩) fun r s1 hr => ?_
  cases r with
  | error e => exact hr
  | ok fl =>
    cases fl with
    | ret obj =>
      obtain ⟨rfl, rfl⟩ := hr
      have hS : (s.heap.push (set0 w)).get? s.heap.objs.size = some (set0 w) := Heap.get?_push_size _ rfl
      have hT : Shared.TypeIs { s with heap := s.heap.push (set0 w) } (.ref s.heap.objs.size) "set" := ⟨_, hS, rfl⟩
      have hli := F.called_set.init.lookup
      have hbi := F.called_set.init.bind (.ref s.heap.objs.size)
      repeat (any_goals (first | assumption | wp_step))
      refine codeAny_mono (codeAny_call_builtin (R := wants (fun r s2 => r = .none ∧ ∃ h' tk, s2 = { s with heap := h', toks := tk } ∧ SetL w h' s.heap.objs.size (addAll [] ks) ∧ ∀ b o, s.heap.get? b = some o → h'.get? b = some o) E) F.called_set.init.plain F.entry_set_init (check_set_init_1 hT ?_)) fun r2 s2 hr2 => ?_
      · obtain ⟨ol, hol, hcl, nl, hdl⟩ := hl
        obtain ⟨ocls, odict, odata, oslots⟩ := ol
        simp only at hcl hdl
        subst hcl; subst hdl
        have hol' : (s.heap.push (set0 w)).get? l = some { cls := .type "list", dict := odict, data := .seq items nl, slots := oslots } := kp _ _ _ hol
        have z1 := F.sub_list_set
        have z2 := F.sub_list_frozenset
        have z3 : (Value.type "list" == Value.type "dict") = false := by decide
        have hl1 : (s.heap.push (set0 w)).IsList l items := ⟨_, hol', rfl, nl, rfl⟩
        unfold Builtin.«set.__init__» noKeywords Builtin.Frozenset.updateFrom
        generalize hPI : pyIter = PI
        wp_walk
        subst hPI
        refine wpAny_pyIter_list hl1 (wpAny_bind (wpAny_runValue ?_))
        have hlS : l < s.heap.objs.size := Heap.lt_size hol
        have hz : (s.heap.push (set0 w)).objs.size = s.heap.objs.size + 1 := Heap.size_push ..
        have hneI : l ≠ (s.heap.push (set0 w)).objs.size := by rw [hz]; exact Nat.ne_of_lt (Nat.lt_succ_of_lt hlS)
        have hSf : s.heap.objs.size ∉ [(s.heap.push (set0 w)).objs.size, l] := by
          rw [hz]; simp only [List.mem_cons, List.not_mem_nil, or_false, not_or]
          exact ⟨Nat.ne_of_lt (Nat.lt_succ_self _), Nat.ne_of_gt hlS⟩
        refine setL_update ((Walks.list (by simp [hh]) _ l hneI items).toS) s.heap.objs.size hSf ks hisz hb hit (items.size - 0) 0 _ (by omega) (Nat.zero_le _) ⟨⟨_, Heap.get?_push_size _ rfl, rfl, rfl⟩, (hl1.push _)⟩ (setL_new (Heap.get?_push_of_some _ hS)) ?_
        intro s' hm hS'
        obtain ⟨h', g2, d', tk', os'⟩ := s'
        have eg : g2 = s.gens := hm.gens
        have ed : d' = s.drawn := hm.drawn
        have eo : os' = s.os := hm.os
        subst eg; subst ed; subst eo
        show wpAny _ _ _ _ _ _
        refine wpAny_pure ?_
        show wpAny _ _ (ret Value.none) _ _ _
        refine wpAny_pure ⟨rfl, h', tk', rfl, hS', fun b o e => ?_⟩
        have hb0 : b < s.heap.objs.size := Heap.lt_size e
        exact hm.heap b o (by
          simp only [List.mem_cons, List.not_mem_nil, or_false, not_or]
          exact ⟨Nat.ne_of_lt hb0, by rw [hz]; exact Nat.ne_of_lt (Nat.lt_succ_of_lt hb0)⟩) (Heap.get?_push_of_some _ (kp _ _ _ e))
      · cases r2 with
        | error e => exact hr2
        | ok fl2 =>
          cases fl2 with
          | ret r =>
            obtain ⟨rfl, h', tk, rfl, hS', hk'⟩ := hr2
            repeat (any_goals (first | assumption | wp_step))
            exact h _ _ hS' hk'
          | _ => exact hr2.elim
    | _ => exact hr.elim
end
end Mx

set_option linter.all false
set_option maxRecDepth 100000
set_option maxHeartbeats 4000000
namespace Mx
open PySem PySem.Spec PyProof.Rows L2
/-! ### sets as things that are made and used up within an expression -/
def SetM (w : World) (a : Addr) (L : List Key) : HO := .ext fun h => SetL w h a L
def asKey : Val → Option Key
  | .int i => some (.inl i)
  | .str z => some (.inr ⟨z.toArray⟩)
  | _ => none
def kVal : Key → Val
  | .inl i => .int i
  | .inr x => .str x.cps.toList
def asKeys : List Val → Option (List Key)
  | [] => some []
  | x :: xs => (asKey x).bind fun k => (asKeys xs).map (k :: ·)
theorem asKey_eq {x : Val} {k : Key} (h : asKey x = some k) : x = kVal k := by
  cases x <;> simp only [asKey, Option.some.injEq, reduceCtorEq] at h <;> (subst h; rfl)
theorem asKey_k (k : Key) : asKey (kVal k) = some k := by
  cases k with
  | inl i => rfl
  | inr x => show some (Sum.inr (⟨x.cps.toList.toArray⟩ : Str)) = _; rw [Array.toArray_toList]
theorem asKeys_eq : ∀ {xs : List Val} {L : List Key}, asKeys xs = some L → xs = L.map kVal
  | [], L, h => by cases h; rfl
  | x :: xs, L, h => by
    simp only [asKeys] at h
    cases e : asKey x with
    | none => rw [e] at h; cases h
    | some k =>
      cases e2 : asKeys xs with
      | none => simp [e, e2] at h
      | some L2 =>
        simp [e, e2] at h
        subst h
        rw [List.map_cons, ← asKey_eq e, ← asKeys_eq e2]
theorem asKeys_map : ∀ L : List Key, asKeys (L.map kVal) = some L
  | [] => rfl
  | k :: L => by rw [List.map_cons, asKeys, asKey_k, asKeys_map L]; rfl
theorem vr_key {K : PySem.W.Frag} {io : List Addr} {H : Hp} {x : Val} {k : Key} {v : V} (h : asKey x = some k) (r : VR K io H x v) : v = kV k := by
  rw [asKey_eq h] at r
  cases k with
  | inl i => exact r
  | inr x =>
    have r' : v = .str ⟨x.cps.toList.toArray⟩ := r
    rw [r', Array.toArray_toList]; rfl
theorem key_vr {K : PySem.W.Frag} {io : List Addr} {H : Hp} (k : Key) : VR K io H (kVal k) (kV k) := by
  cases k with
  | inl i => rfl
  | inr x => show V.str x = .str ⟨x.cps.toList.toArray⟩; rw [Array.toArray_toList]
theorem rel_is {k : Key} {u : Value} (r : RelV (kV k) u) : keyIs k u = true := by
  cases k with
  | inl i => obtain ⟨t, rfl⟩ := r; exact keyIs_int i t
  | inr x => obtain ⟨t, rfl⟩ := r; exact keyIs_str x t
section
variable {X : Cx}
theorem setM_new {w : World} {P : Program} {H : Hp} {h : Heap} {a : Addr} {L : List Key} (R : SetL w h a L) : ObjOk P w H h a (SetM w a L) := by
  have ⟨o, _, _, _, ho, _⟩ := R
  exact ⟨R, ⟨o, ho⟩, fun h1 h2 p k => SetL.at p k⟩
theorem setM_get {pins : List (Addr × Obj)} {σ : L2.St} {H : Hp} {s : Shared} {a : Addr} {L : List Key} (I : Inv X pins σ H s) (ha : H a = some (SetM X.w a L)) : SetL X.w s.heap a L := (I.hok a _ ha).1
theorem new_s {e : Expr} : NewOk X (.s e) fun a => SetM X.w a [] := ⟨fun A E s Q _ h => PpSet.newSet_ok (h _ (fun b o e => Heap.get?_push_of_some _ e) (Heap.size_push ..) fun H => setM_new (setL_new (Heap.get?_push_size _ rfl)))⟩
/-- set.add -/
theorem addM_ok {pins : List (Addr × Obj)} {σ : L2.St} {H : Hp} {s : Shared} {E : Value → Shared → Prop} {D : Addr} {L : List Key} {k : Key} {u : Value} {Q : Value → Shared → Prop} (I : Inv X pins σ H s) (hD : H D = some (SetM X.w D L)) (room : L.length + 1 < scanBound) (r : RelV (kV k) u)
    (h : ∀ s', Inv X pins σ (upd H D (SetM X.w D (addK L k))) s' → Q .none s') : wpAny (model X.prog X.w) X.A (call (.builtin "set.add") [.ref D, u]) Q E s := by
  have R := setM_get I hD
  have hS := R.setOf (P := X.prog)
  refine wpAny_call_entry F.slot_set_add hS.typeIs F.entry_set_add ?_ (F.args_set_add_2 _ _)
  unfold Builtin.«set.add» Builtin.Frozenset.oneOther
  simp only [List.isEmpty_nil, bind_assoc]
  unfold Builtin.Frozenset.addrOf setAdd
  refine wpAny_bind (wpAny_pure ?_)
  try dsimp only
  refine wpAny_bind (wpAny_pure ?_)
  try dsimp only
  refine wpAny_bind (wpAny_holding (wpAny_bind ((mixKind X.prog X.w).pyHash (rel_is r) ?_)))
  refine setL_add (s := { s with toks := s.toks + 1 }) (rel_is r) R room fun h' b sb S2 => ?_
  show wpAny _ _ (ret Value.none) _ _ _
  have ⟨o, _, _, _, ho, _⟩ := S2
  exact wpAny_pure ⟨_, rfl, h _ (I.write (e := D) (t' := s.toks + 1) (by rw [hD]; trivial) (.inl rfl) (fun b u hb hu => (sb.2 b hb).trans hu) ⟨o, ho⟩ (setM_new S2))⟩
end
/-- the thing made: a set that holds just these, each once -/
def AOs (w : World) (io : List Addr) (H : Hp) (xs : List Val) (D : Addr) : Prop := ∃ L, xs = L.map kVal ∧ L.Nodup ∧ H D = some (SetM w D L)
theorem aok_s {K : PySem.W.Frag} {w : World} : AOk K (AOs w) := ⟨fun l hn ⟨L, e, n, h⟩ => ⟨L, e, n, (l.fr _ _ h hn).1⟩, fun l hn ⟨L, e, n, h⟩ => (l.fr _ _ h hn).2, fun ⟨L, e, n, h⟩ => by rw [h]; intro z; cases z⟩
def bAdd (me : Ev → M Val) : Ev → List Val → M (List Val) := fun env acc S => (me env S).bind fun y S1 => match asKey y, asKeys acc with
  | some k, some L => if acc.length + 1 < 4096 then .ok ((addK L k).map kVal) S1 else .bad
  | _, _ => .bad
section
variable {X : Cx} {E : XK} {s0 : Shared} {H0 : Hp} {scope : Scope} {ce : Env} {fq : List Addr}
theorem ext_ext {K : PySem.W.Frag} {H : Hp} {D : Addr} {φ ψ : Heap → Prop} (hD : H D = some (.ext φ)) : (∀ (a : Addr) (xs : List V), SqT K H a xs → SqT K (upd H D (.ext ψ)) a xs) ∧ ∀ (a : Addr) (xs : List V), SqF K H a xs → SqF K (upd H D (.ext ψ)) a xs := by
  refine ⟨fun a xs h => ?_, fun a xs h => ?_⟩
  · rcases h with h | h
    · rcases h with h | ⟨x, h⟩
      · exact .inl (.inl (by rw [upd_ne (ne_of h hD (by intro z; cases z))]; exact h))
      · exact .inl (.inr ⟨x, by rw [upd_ne (ne_of h hD (by intro z; cases z))]; exact h⟩)
    · exact .inr h
  · rcases h with ⟨x, h⟩ | h
    · exact .inl ⟨x, by rw [upd_ne (ne_of h hD (by intro z; cases z))]; exact h⟩
    · exact .inr h
theorem SR.ext {K : PySem.W.Frag} {io : List Addr} {H : Hp} {S : Sto} {D : Addr} {φ ψ : Heap → Prop} (s : SR K io H S) (hD : H D = some (.ext φ)) (hi : D ∉ io) : SR K io (L2.upd H D (.ext ψ)) S := by
  refine ⟨s.len, s.inj, fun n a o h1 h2 => ?_⟩
  have na : a ≠ D := fun e => hi (by rw [← e]; exact List.mem_of_getElem? h1)
  have q := s.obj n a o h1 h2
  exact q.keep (upd_ne na) (fun b x hb hn => ⟨by rw [upd_ne (ne_of hb hD (by intro z; cases z))]; exact hb, hn⟩) fun xs vs k => (VR.up (ext_ext hD).1 (ext_ext hD).2).2 _ _ k
theorem pbm_add {elt : Expr} {me : Ev → M Val} (he : PEm (X.blk s0 H0 scope ce fq) E elt me) : PBm (X.blk s0 H0 scope ce fq) [] (AOs X.w) E (fun acc => (Kd.s elt).emit acc ce) (bAdd me) := by
  obtain ⟨te, p, q⟩ := he.ex
  refine ⟨fun D σ H N => te σ H fun y H4 => ∃ L k, y = kV k ∧ H4 D = some (SetM X.w D L) ∧ L.length + 1 < scanBound ∧ N (upd H4 D (SetM X.w D (addK L k))), ⟨fun D pins s σ H N I h => ?_⟩, fun D io σ H env S acc N er sr ao hn h => ?_⟩
  · show wpAny _ _ (eval elt ce >>= fun v => standAt elt.pos >>= fun _ => call (.builtin "set.add") [.ref D, v] >>= fun _ => pure ()) _ _ s
    refine wpAny_bind (thnF (p.run pins s σ H _ I h) fun v s1 ⟨y, H1, I1, r1, L, k, e0, e1, z1, n1⟩ => ?_)
    subst e0
    exact wpAny_bind (wpAny_standAt (wpAny_bind (addM_ok (X := X.blk s0 H0 scope ce fq) I1 e1 z1 r1 fun s2 I2 => wpAny_pure ⟨_, I2, n1⟩)))
  · refine q io σ H env S _ er sr (finA_bind h fun y S1 io1 H1 v _ l1 s1 r1 h1 => ?_)
    obtain ⟨L, e0, nd, e1⟩ := (aok_s (K := X.K)).mono l1 hn ao
    have n1 := (aok_s (K := X.K)).out l1 hn ao
    cases ek : asKey y with
    | none => simp only [ek] at h1; exact h1.elim
    | some k =>
      have ea : asKeys acc = some L := by rw [e0]; exact asKeys_map L
      simp only [ek, ea] at h1
      by_cases hl : acc.length + 1 < 4096
      · rw [if_pos hl] at h1
        have hl2 : L.length + 1 < scanBound := by
          rw [e0, List.length_map] at hl
          exact hl
        refine ⟨L, k, vr_key ek r1, e1, hl2, h1 io1 _ ⟨fun _ _ h => h, (ext_ext e1).1, (ext_ext e1).2, fun a o e k d => ⟨by rw [upd_ne d]; exact e, k⟩⟩ (s1.ext e1 n1) ⟨_, rfl, addK_nodup nd, upd_same⟩ n1⟩
      · rw [if_neg hl] at h1
        exact h1.elim
end
end Mx

set_option linter.all false
set_option maxRecDepth 100000
set_option maxHeartbeats 4000000
namespace Mx
open PySem PySem.Spec PyProof.Rows L2 PySem.W
/-! ### set(xs) -/
def rSetK (K : PySem.W.Frag) (w : World) : List V → Hp → VK → Prop := fun xs H Q => ∃ (l : Addr) (ks : List Key), xs = [V.ref l] ∧ (SqL K H l (ks.map kV) ∨ SqT K H l (ks.map kV)) ∧ ks.length + 1 < scanBound ∧ ∀ p, H p = none → Q (.ref p) (upd H p (SetM w p (addAll [] ks)))
theorem kV_at {ks : List Key} : ∀ {us : List Value}, Vals (ks.map kV) us → ∀ (i : Nat) (v : Value), us[i]? = some v → ∃ k, ks[i]? = some k ∧ keyIs k v = true := by
  induction ks with
  | nil => intro us r i v e; cases r; simp at e
  | cons k ks ih =>
    intro us r i v e
    rw [List.map_cons] at r
    cases r with
    | cons r1 r2 =>
      cases i with
      | zero => simp at e; subst e; exact ⟨k, rfl, rel_is r1⟩
      | succ i => obtain ⟨k', h1, h2⟩ := ih r2 i v (by simpa using e); exact ⟨k', by simpa using h1, h2⟩
section
variable {X : Cx}
theorem cr_setK (hc : X.calm = true) : CallR X (.type "set") (rSetK X.K X.w) := by
  intro pins s σ H xs us Q I r h
  obtain ⟨l, ks, rfl, hl, hb, q⟩ := h
  rw [Vals.ref1 r]
  have fin : ∀ (h' : Heap) (tk : Nat), SetL X.w h' s.heap.objs.size (addAll [] ks) → (∀ b o, s.heap.get? b = some o → h'.get? b = some o) → EP X pins σ Q (.ref s.heap.objs.size) { s with heap := h', toks := tk } := fun h' tk R k =>
    ⟨.ref s.heap.objs.size, _, I.laid (t' := tk) k (Nat.le_refl _) (setM_new R), rfl, q _ (I.hok.fresh (Nat.le_refl _))⟩
  rcases hl with hl | hl
  · obtain ⟨its, rv, pl, hz⟩ := I.list hl
    exact call_set_list ks (I.ok.hd hc) pl.isList (fun i v e => kV_at rv i v (by simpa using e)) (by rw [List.size_toArray, ← rv.length, List.length_map]) hb fin
  · obtain ⟨its, rv, pl, hz⟩ := I.tuple hl
    exact call_set_tup ks (I.ok.hd hc) pl (fun i v e => kV_at rv i v (by simpa using e)) (by rw [List.size_toArray, ← rv.length, List.length_map]) hb fin
/-! ### sorted(set) -/
def kLt : Key → Key → Bool
  | .inl a, .inl b => decide (a < b)
  | .inr a, .inr b => decide (a.cps.toList < b.cps.toList)
  | _, _ => false
def kEnc : Key → PyData
  | .inl a => .int a
  | .inr a => .str a
def isL : Key → Bool
  | .inl _ => true
  | .inr _ => false
/-- all numbers, or all texts -/
def okK (L : List Key) : Bool := L.all isL || L.all fun k => !isL k
def sortK (L : List Key) : List Key := L.mergeSort fun a b => !kLt b a
theorem okK_iff {L : List Key} (h : okK L = true) : ∀ a ∈ L, ∀ b ∈ L, isL a = isL b := by
  unfold okK at h
  rw [Bool.or_eq_true, List.all_eq_true, List.all_eq_true] at h
  intro a ha b hb
  rcases h with h | h
  · rw [h a ha, h b hb]
  · have := h a ha; have := h b hb
    cases e1 : isL a <;> cases e2 : isL b <;> simp_all
theorem dataLe_kEnc {L : List Key} (h : okK L = true) : ∀ a ∈ L, ∀ b ∈ L, dataLe false kEnc a b = !kLt b a := by
  intro a ha b hb
  have e := okK_iff h a ha b hb
  rw [dataLe_eq]
  cases a <;> cases b <;> simp only [isL, reduceCtorEq] at e <;> simp [kEnc, kLt, dataLt_int, dataLt_str]
theorem mergeSort_congr {α : Type} {r s : α → α → Bool} {l : List α} (h : ∀ a ∈ l, ∀ b ∈ l, r a b = s a b) : l.mergeSort r = l.mergeSort s := by
  have := List.map_mergeSort (r := r) (s := s) (f := id) (l := l) h
  simpa using this
theorem sortK_eq {L : List Key} (h : okK L = true) : L.mergeSort (dataLe false kEnc) = sortK L := mergeSort_congr (dataLe_kEnc h)
def kLe : Key → Key → Prop
  | .inl a, .inl b => a ≤ b
  | .inr a, .inr b => a.cps.toList ≤ b.cps.toList
  | _, _ => False
theorem kLe_iff {a b : Key} (e : isL a = isL b) : (!kLt b a) = true ↔ kLe a b := by
  cases a <;> cases b <;> simp only [isL, reduceCtorEq] at e
  · simp only [kLt, kLe, Bool.not_eq_true', decide_eq_false_iff_not]; omega
  · simp only [kLt, kLe]; rw [not_lt_str, decide_eq_true_eq]
theorem kLe_trans {a b c : Key} (h1 : kLe a b) (h2 : kLe b c) : kLe a c := by
  cases a <;> cases b <;> cases c <;> simp only [kLe] at h1 h2 ⊢
  · omega
  · exact List.le_trans h1 h2
theorem kLe_total {a b : Key} (e : isL a = isL b) : kLe a b ∨ kLe b a := by
  cases a <;> cases b <;> simp only [isL, reduceCtorEq] at e <;> simp only [kLe]
  · omega
  · exact List.le_total _ _
theorem kLe_anti {a b : Key} (h1 : kLe a b) (h2 : kLe b a) : a = b := by
  cases a <;> cases b <;> simp only [kLe] at h1 h2
  · congr 1; omega
  · congr 1; exact str_of_cps (List.le_antisymm h1 h2)
theorem kinds : ∀ N : List Key, (∀ a ∈ N, ∀ b ∈ N, isL a = isL b) → (∃ is : List Int, N = is.map Sum.inl) ∨ ∃ xs : List Str, N = xs.map Sum.inr
  | [], _ => .inl ⟨[], rfl⟩
  | a :: N, h => by
    have hN : ∀ b ∈ N, isL b = isL a := fun b hb => h b (List.mem_cons_of_mem _ hb) a List.mem_cons_self
    cases a with
    | inl i =>
      left
      refine ⟨i :: N.map fun k => match k with | .inl i => i | .inr _ => 0, ?_⟩
      rw [List.map_cons, List.map_map]
      congr 1
      have : N.map id = N.map (Sum.inl ∘ fun k => match k with | .inl i => i | .inr _ => 0) := List.map_congr_left fun b hb => by
        have := hN b hb
        cases b with
        | inl j => rfl
        | inr y => simp [isL] at this
      simpa using this
    | inr x =>
      right
      refine ⟨x :: N.map fun k => match k with | .inr i => i | .inl _ => x, ?_⟩
      rw [List.map_cons, List.map_map]
      congr 1
      have : N.map id = N.map (Sum.inr ∘ fun k => match k with | .inr i => i | .inl _ => x) := List.map_congr_left fun b hb => by
        have := hN b hb
        cases b with
        | inl j => simp [isL] at this
        | inr y => rfl
      simpa using this
theorem sortK_inl (is : List Int) : sortK (is.map Sum.inl) = (is.mergeSort fun a b => decide (a ≤ b)).map Sum.inl := by
  unfold sortK
  refine (List.map_mergeSort fun a _ b _ => ?_).symm
  show decide (a ≤ b) = !decide (b < a)
  rw [Bool.eq_iff_iff]
  simp
theorem sortK_inr (xs : List Str) : sortK (xs.map Sum.inr) = (xs.mergeSort fun a b => decide (a.cps.toList ≤ b.cps.toList)).map Sum.inr := by
  unfold sortK
  refine (List.map_mergeSort fun a _ b _ => ?_).symm
  show decide (a.cps.toList ≤ b.cps.toList) = !decide (b.cps.toList < a.cps.toList)
  rw [not_lt_str]
theorem sortK_srt {N : List Key} (h : ∀ a ∈ N, ∀ b ∈ N, isL a = isL b) : (sortK N).Pairwise kLe := by
  rcases kinds N h with ⟨is, rfl⟩ | ⟨xs, rfl⟩
  · rw [sortK_inl, List.pairwise_map]
    have q := List.pairwise_mergeSort (le := fun a b : Int => decide (a ≤ b)) (fun a b c h1 h2 => by simp only [decide_eq_true_eq] at h1 h2 ⊢; omega) (fun a b => by simp only [Bool.or_eq_true, decide_eq_true_eq]; omega) is
    exact q.imp fun h => of_decide_eq_true h
  · rw [sortK_inr, List.pairwise_map]
    have q := List.pairwise_mergeSort (le := fun a b : Str => decide (a.cps.toList ≤ b.cps.toList)) (fun a b c h1 h2 => by simp only [decide_eq_true_eq] at h1 h2 ⊢; exact List.le_trans h1 h2) (fun a b => by simp only [Bool.or_eq_true, decide_eq_true_eq]; exact List.le_total _ _) xs
    exact q.imp fun h => of_decide_eq_true h
/-- the sorting of a set's members doesn't hang on the order in which they come -/
theorem sortK_perm {L M : List Key} (h : okK L = true) (p : M.Perm L) : sortK M = sortK L := by
  have hm : ∀ a ∈ M, ∀ b ∈ M, isL a = isL b := fun a ha b hb => okK_iff h a (p.mem_iff.mp ha) b (p.mem_iff.mp hb)
  exact List.Perm.eq_of_pairwise (fun a b _ _ => kLe_anti) (sortK_srt hm) (sortK_srt (okK_iff h)) (((List.mergeSort_perm M _).trans p).trans (List.mergeSort_perm L _).symm)
end
def rSortM (w : World) : List V → Hp → VK → Prop := fun vs H Q => ∃ (a : Addr) (L : List Key), vs = [V.ref a] ∧ H a = some (SetM w a L) ∧ okK L = true ∧ ∀ p, H p = none → Q (.ref p) (upd H p (.lst ((sortK L).map kV)))
theorem rel_kV {v : Value} (h : keyIs (kOf v) v = true) : RelV (kV (kOf v)) v := by
  rcases keyIs_shape h with ⟨i, t, e, e2⟩ | ⟨x, t, e, e2⟩ <;> rw [e, e2] <;> exact ⟨t, rfl⟩
theorem reads_k {h : Heap} {v : Value} {k : Key} (r : RelV (kV k) v) : ∃ as, Reads h v (kEnc k) as := by
  cases k with
  | inl i => obtain ⟨t, rfl⟩ := r; exact ⟨_, .int i t⟩
  | inr x => obtain ⟨t, rfl⟩ := r; exact ⟨_, .str x t⟩
theorem each_of {R : Value → Key → Prop} : ∀ (vs : List Value), (∀ v ∈ vs, R v (kOf v)) → EachIs R vs (vs.map kOf)
  | [], _ => .nil
  | v :: vs, h => .cons (h v List.mem_cons_self) (each_of vs fun u hu => h u (List.mem_cons_of_mem _ hu))
theorem vals_each : ∀ {us : List Value} {ks : List Key}, EachIs (fun v k => RelV (kV k) v) us ks → Vals (ks.map kV) us
  | _, _, .nil => .nil
  | _, _, .cons r t => .cons r (vals_each t)
section
variable {X : Cx}
theorem cr_sortM (hc : X.calm = true) (hu : X.A.units + 66 < cLine) : CallR X (.builtin "sorted") (rSortM X.w) := by
  intro pins s σ H vs us Q I r h
  obtain ⟨a, L, rfl, ha, hk, q⟩ := h
  rw [Vals.ref1 r]
  obtain ⟨o, es, ep, t, ho, hex, hd, g, pm, nd, hb, hf, hr, hl⟩ := setM_get I ha
  refine Calls.call_function_entry kind_sorted plain_sorted entry_sorted (args_sorted1 _) ?_
  unfold Builtin.«sorted»
  refine wpAny_bind (m := checkCount "sorted" 1 1 _) (wpAny_pure ?_)
  refine wpAny_bind (collect_set (A := X.A.in1) (I.ok.hd hc) ⟨o, ho, hex.1, hd⟩ hf hb hr hl fun s1 us k1 hz g1 o1 pu => ?_)
  have ul : us.length ≤ sizeLine := by
    rw [pu.length_eq, List.length_map, Array.length_toList]
    exact fits_of_scanBound hb
  refine wpAny_bind (wpAny_newList ?_ ul)
  have hoL : (s1.heap.push (seqObj "list" us.toArray 0)).get? s1.heap.objs.size = some (seqObj "list" us.toArray 0) := Heap.get?_push_size _ rfl
  have good : ∀ u ∈ us, keyIs (kOf u) u = true := fun u hm => by
    obtain ⟨e, he, rfl⟩ := List.mem_map.mp (pu.mem_iff.mp hm)
    exact (g e he).1
  have pk : (us.map kOf).Perm L := by
    have q1 := pu.map kOf
    rw [List.map_map] at q1
    exact q1.trans pm
  have ok2 : okK (us.map kOf) = true := by
    have e := hk
    unfold okK at e ⊢
    rw [Bool.or_eq_true, List.all_eq_true, List.all_eq_true] at e ⊢
    exact e.imp (fun h x hx => h x (pk.mem_iff.mp hx)) fun h x hx => h x (pk.mem_iff.mp hx)
  have ea := each_of (R := fun v k => RelV (kV k) v) us fun v hv => rel_kV (good v hv)
  have al : AllAlike ((us.map kOf).map kEnc) := fun d hd d' hd' => by
    obtain ⟨k, hk1, rfl⟩ := List.mem_map.mp hd
    obtain ⟨k', hk2, rfl⟩ := List.mem_map.mp hd'
    have e := okK_iff ok2 k hk1 k' hk2
    cases k <;> cases k' <;> simp only [isL, reduceCtorEq] at e <;> rfl
  have so : Sortable ((us.map kOf).map kEnc) := .inr fun d hd => by
    obtain ⟨k, hk1, rfl⟩ := List.mem_map.mp hd
    cases k <;> exact ⟨(by intro z; cases z), fun xs z => by cases z⟩
  have dep : ∀ k ∈ us.map kOf, X.A.in1.in1.units + (kEnc k).depth < cLine := fun k _ => by
    have e : (kEnc k).depth = 0 := by cases k <;> rfl
    rw [e]
    show X.A.units + 1 + 1 + 0 < cLine
    omega
  refine wpAny_bind (wpAny_holding (list_sort_data (A := X.A.in1) (R := fun v k => RelV (kV k) v) (enc := kEnc) hoL ea (ea.mono fun v k r => by
    obtain ⟨as, q⟩ := reads_k (h := s1.heap.push (seqObj "list" us.toArray 0)) r
    refine ⟨as, q, ?_⟩
    cases k with
    | inl i => obtain ⟨t, rfl⟩ := r; cases q; exact List.not_mem_nil
    | inr x => obtain ⟨t, rfl⟩ := r; cases q; exact List.not_mem_nil) al so (by rw [List.length_map]; exact ul) dep fun out ol eo => ?_))
  obtain ⟨c, hcc⟩ := sortedHeap_at (vs := us) (out := out.toArray) hoL
  have esort : (us.map kOf).mergeSort (dataLe false kEnc) = sortK L := (sortK_eq ok2).trans (sortK_perm hk pk)
  rw [esort] at eo
  have kp : ∀ b u, s.heap.get? b = some u → (sortedHeap (s1.heap.push (seqObj "list" us.toArray 0)) s1.heap.objs.size us out.toArray).get? b = some u := fun b u e => by
    have q1 := k1 b u e
    have hlt := Heap.lt_size q1
    rw [sortedHeap_old (Nat.ne_of_lt hlt) (by rw [size_push']; exact Nat.lt_succ_of_lt hlt)]
    exact Heap.get?_push_of_some _ q1
  have hn : H s1.heap.objs.size = none := I.hok.fresh hz
  have lz : ((sortK L).map kV).length ≤ sizeLine := by
    rw [List.length_map, ← esort, (List.mergeSort_perm _ _).length_eq, List.length_map]
    exact ul
  have J : Inv X pins σ (upd H s1.heap.objs.size (.lst ((sortK L).map kV))) { s with heap := sortedHeap (s1.heap.push (seqObj "list" us.toArray 0)) s1.heap.objs.size us out.toArray, gens := s1.gens, drawn := s1.drawn, toks := s1.toks } :=
    I.call (ch := []) (Un.laid kp hz hn) (I.hok.laid kp hz ⟨lz, out, c, vals_each eo, hcc⟩) (by rw [g1]; exact I.bare) (fun _ z => nomatch z)
  have e : ({ s1 with heap := sortedHeap (s1.heap.push (seqObj "list" us.toArray 0)) s1.heap.objs.size us out.toArray } : Shared) = { s with heap := sortedHeap (s1.heap.push (seqObj "list" us.toArray 0)) s1.heap.objs.size us out.toArray, gens := s1.gens, drawn := s1.drawn, toks := s1.toks } := by
    cases s1
    cases s
    cases o1
    rfl
  refine wpAny_pure ⟨_, rfl, ?_⟩
  show EP X pins σ Q (.ref s1.heap.objs.size) { s1 with heap := sortedHeap (s1.heap.push (seqObj "list" us.toArray 0)) s1.heap.objs.size us out.toArray }
  rw [e]
  exact ⟨.ref _, _, J, rfl, q _ hn⟩
end
end Mx

set_option linter.all false
set_option maxRecDepth 100000
set_option maxHeartbeats 4000000
namespace Mx
open PySem PySem.Spec PyProof.Rows L2
/-! ### sequences that are read -/
structure SView {α : Type} (K : PySem.W.Frag) (R : Hp → List Addr → Hp → α → V → Prop) (L : α → Sto → Option (List Val)) : Prop where
  mono : ∀ {B H H' : Hp} {io io' : List Addr} {x : α} {v : V}, Le K io H io' H' → R B io H x v → R B io' H' x v
  at_ : ∀ {B H : Hp} {io : List Addr} {S : Sto} {x : α} {v : V} {xs : List Val}, SR K io H S → R B io H x v → L x S = some xs → ∃ a vs, v = .ref a ∧ (SqL K H a vs ∨ SqT K H a vs) ∧ VRs K io H xs vs
def asS (x : Val) (S : Sto) : Option (List Val) := match x with
  | .loc n => (match S[n]? with | some (.lst xs) => some xs | _ => none)
  | .tup xs => some xs
  | .kl xs => some xs
  | _ => none
theorem svL {K : PySem.W.Frag} : SView K (RL K) asL := ⟨RL.mono, fun s r e => by
  obtain ⟨a, vs, rfl, hv, _, _, k⟩ := r
  cases e
  exact ⟨a, vs, rfl, .inl (SqL.of hv), k⟩⟩
theorem svS {K : PySem.W.Frag} : SView K (fun _ => VR K) asS := ⟨fun l r => VR.mono l _ _ r, fun {B H io S x v xs} s r e => by
  cases x with
  | loc n =>
    obtain ⟨p, hi, rfl⟩ := r
    simp only [asS] at e
    cases eo : S[n]? with
    | none => simp only [eo] at e; cases e
    | some o =>
      have q := s.is eo hi
      cases o with
      | lst ys =>
        simp only [eo] at e
        cases e
        obtain ⟨vs, hv, k⟩ := q
        exact ⟨p, vs, rfl, .inl (SqL.of hv), k⟩
      | _ => first | exact e.elim | (simp only [eo] at e; first | exact e.elim | cases e) | (dsimp only at e; exact e.elim) | cases e
  | tup ys =>
    obtain ⟨p, vs, rfl, h, k⟩ := r
    cases e
    exact ⟨p, vs, rfl, .inr h, k⟩
  | kl ys =>
    obtain ⟨p, vs, rfl, h, k⟩ := r
    cases e
    exact ⟨p, vs, rfl, .inl h.sq, k⟩
  | _ => cases e⟩
theorem keys_vs {K : PySem.W.Frag} {io : List Addr} {H : Hp} : ∀ {xs : List Val} {ks : List Key} {vs : List V}, asKeys xs = some ks → VRs K io H xs vs → vs = ks.map kV
  | [], ks, vs, e, r => by cases e; cases r; rfl
  | x :: xs, ks, vs, e, ⟨v, ws, ev, r, k⟩ => by
    simp only [asKeys] at e
    cases e1 : asKey x with
    | none => rw [e1] at e; cases e
    | some k1 =>
      cases e2 : asKeys xs with
      | none => simp [e1, e2] at e
      | some L2 =>
        simp [e1, e2] at e
        subst e
        rw [ev, vr_key e1 r, keys_vs e2 k]; rfl
theorem map_vrs {K : PySem.W.Frag} {io : List Addr} {H : Hp} : ∀ ks : List Key, VRs K io H (ks.map kVal) (ks.map kV)
  | [] => rfl
  | k :: ks => ⟨_, _, rfl, key_vr k, map_vrs ks⟩
theorem addAll_nodup : ∀ (ks L : List Key), L.Nodup → (addAll L ks).Nodup
  | [], L, h => h
  | k :: ks, L, h => addAll_nodup ks (addK L k) (addK_nodup h)
/-- set(xs) -/
def mSet {α : Type} (L : α → Sto → Option (List Val)) (m : Ev → M α) : Ev → M (List Val) := fun env S => (m env S).bind fun x S1 => match (L x S1).bind asKeys with
  | some ks => if ks.length + 1 < 4096 then .ok ((addAll [] ks).map kVal) S1 else .bad
  | none => .bad
/-- sorted(set) -/
def mSortS (m : Ev → M (List Val)) : Ev → M (List Val) := fun env S => (m env S).bind fun xs S1 => match asKeys xs with
  | some ks => if okK ks = true then .ok ((sortK ks).map kVal) S1 else .bad
  | none => .bad
def mLenS (m : Ev → M (List Val)) : Ev → M Val := fun env S => (m env S).bind fun xs S1 => .ok (.int xs.length) S1
section
variable {X : Cx} {E : XK} {a : Expr} {p pos : Pos} {α : Type} {R : Hp → List Addr → Hp → α → V → Prop} {L : α → Sto → Option (List Val)} {m : Ev → M α} {ms : Ev → M (List Val)}
theorem pxm_set (hc : X.calm = true) (w : SView X.K R L) (hm : X.mg "set" = none) (ha : PXm X E R a m) (hg : Gl X "set" := by rfl)
    (he : starEach [a] X.env = [(false, eval a X.env)] := by rfl) (hpl : (backTo pos (starEach [] X.env)).any (·.1) = false := by rfl) : PXm X E (RA (AOs X.w)) (.Call (.Name "set" p) [a] [] pos) (mSet L m) := by
  obtain ⟨ta, pa, qa⟩ := ha.ex
  refine ⟨_, pe_callTy (cr_setK hc) hg hm (by decide +kernel) (pa_cons pa pa_nil he) (by decide) (by decide) he hpl, fun io σ H env S Q er sr h => ?_⟩
  refine qa io σ H env S _ er sr (fin_bind h fun x S1 io1 H1 v _ l1 s1 r1 h1 => ?_)
  cases e1 : L x S1 with
  | none => simp only [e1, Option.bind_none] at h1; exact h1.elim
  | some xs =>
    cases e2 : asKeys xs with
    | none => simp only [e1, e2, Option.bind_some] at h1; exact h1.elim
    | some ks =>
      simp only [e1, e2, Option.bind_some] at h1
      obtain ⟨q, vs, rfl, hv, k⟩ := w.at_ s1 r1 e1
      have ev := keys_vs e2 k
      subst ev
      by_cases hl : ks.length + 1 < 4096
      · rw [if_pos hl] at h1
        refine ⟨q, ks, rfl, hv, hl, fun D hD => ?_⟩
        obtain ⟨f1, f2⟩ := fresh l1 s1 hD
        exact fin_ok h1 (Le.new hD) (s1.new hD) ⟨D, rfl, ⟨_, rfl, addAll_nodup ks [] List.Pairwise.nil, upd_same⟩, f1, f2⟩
      · rw [if_neg hl] at h1
        exact h1.elim
theorem plm_sortS (hc : X.calm = true) (hu : X.A.units + 66 < cLine) (hm : X.mg "sorted" = none) (ha : PXm X E (RA (AOs X.w)) a ms) (hg : Gl X "sorted" := by rfl)
    (he : starEach [a] X.env = [(false, eval a X.env)] := by rfl) (hpl : (backTo pos (starEach [] X.env)).any (·.1) = false := by rfl) : PLm X E (.Call (.Name "sorted" p) [a] [] pos) (mSortS ms) := by
  obtain ⟨ta, pa, qa⟩ := ha.ex
  refine ⟨_, pe_callB (cr_sortM hc hu) hg hm (by decide +kernel) (pa_cons pa pa_nil he) (by decide) (by decide) he hpl, fun io σ H env S Q er sr h => ?_⟩
  refine qa io σ H env S _ er sr (fin_bind h fun xs S1 io1 H1 v _ l1 s1 r1 h1 => ?_)
  obtain ⟨D, rfl, ⟨L, e0, nd, hD⟩, hb, hi⟩ := r1
  have e2 : asKeys xs = some L := by rw [e0]; exact asKeys_map L
  simp only [e2] at h1
  by_cases hk : okK L = true
  · rw [if_pos hk] at h1
    exact ⟨D, L, rfl, hD, hk, fun q hq => newR_fin l1 s1 (map_vrs _) hq h1⟩
  · rw [if_neg hk] at h1
    exact h1.elim
def rLenM (w : World) : List V → Hp → VK → Prop := fun vs H Q => ∃ (a : Addr) (L : List Key), vs = [V.ref a] ∧ H a = some (SetM w a L) ∧ Q (.int L.length) H
theorem cr_lenM : CallR X (.builtin "len") (rLenM X.w) := by
  intro pins s σ H vs us Q I r h
  obtain ⟨a, L, rfl, ha, q⟩ := h
  rw [Vals.ref1 r]
  obtain ⟨o, es, ep, t, ho, hex, hd, g, pm, nd, hb, hf, hr, hl⟩ := setM_get I ha
  have e : (es.size : Int) = (L.length : Int) := by rw [← pm.length_eq, List.length_map, Array.length_toList]
  have hz : (es.size : Int) < 2 ^ 63 := by
    have : es.size < 4096 := hb
    omega
  refine call_len_set ho hex hd hf hz ⟨.int L.length, H, I.tok _, ⟨s.toks + 1, by rw [e]⟩, q⟩
theorem pem_lenS (hm : X.mg "len" = none) (ha : PXm X E (RA (AOs X.w)) a ms) (hg : Gl X "len" := by rfl)
    (he : starEach [a] X.env = [(false, eval a X.env)] := by rfl) (hpl : (backTo pos (starEach [] X.env)).any (·.1) = false := by rfl) : PEm X E (.Call (.Name "len" p) [a] [] pos) (mLenS ms) := by
  obtain ⟨ta, pa, qa⟩ := ha.ex
  refine ⟨_, pe_callB cr_lenM hg hm (by decide +kernel) (pa_cons pa pa_nil he) (by decide) (by decide) he hpl, fun io σ H env S Q er sr h => ?_⟩
  refine qa io σ H env S _ er sr (fin_bind h fun xs S1 io1 H1 v _ l1 s1 r1 h1 => ?_)
  obtain ⟨D, rfl, ⟨L, e0, nd, hD⟩, hb, hi⟩ := r1
  refine ⟨D, L, rfl, hD, ?_⟩
  have e : (xs.length : Int) = (L.length : Int) := by rw [e0, List.length_map]
  rw [e] at h1
  exact fin_here h1 s1 rfl
end
/-! ### {e for ..} -/
def mSc (ms : Ev → M Src) (t : Tg) (mt : Ev → M Bool) (me : Ev → M Val) (vs : List Nat) : Ev → M (List Val) := mCo ms t mt (bAdd me) vs []
def mSc2 (ms : Ev → M Src) (t : Tg) (mt : Ev → M Bool) (ms1 : Ev → M Src) (t1 : Tg) (mt1 : Ev → M Bool) (me : Ev → M Val) (vs vs1 : List Nat) : Ev → M (List Val) := mCo ms t mt (bIn ms1 t1 mt1 (bAdd me) vs1) vs []
section
variable {X : Cx} {E : XK}
theorem pxm_sc {N : List Str} {sc : Scope} {elt tg iter : Expr} {ifs : List Expr} {scope : Scope} {own : List (Str × Nat)} {pos : Pos} {ms : Ev → M Src} {t : Tg} {mt : Ev → M Bool} {me : Ev → M Val} (hc : X.calm = true) (hN : X.N.Nodup) (hi : PIm X E tg iter ms) (ok : blkC N sc scope own = true) (eN : X.N = N) (eS : X.env.scope = sc)
    (hg : ∀ (s : Shared) (H : Hp) (C : Addr) (cl : List (Str × Addr)) (fp : List Addr), PGt (X.blk s H scope (compEnvC scope cl C X.env) fp) tg t) (ht : ∀ (s : Shared) (H : Hp) (C : Addr) (cl : List (Str × Addr)) (fp : List Addr), PTsm (X.blk s H scope (compEnvC scope cl C X.env) fp) E ifs mt)
    (he : ∀ (s : Shared) (H : Hp) (C : Addr) (cl : List (Str × Addr)) (fp : List Addr), PEm (X.blk s H scope (compEnvC scope cl C X.env) fp) E elt me) (hv : ∀ j ∈ tgS t, j ∈ own.map (·.2)) (hs : ∀ x, foldedSetIterable iter X.env x = pure x := by intro _; rfl) :
    PXm X E (RA (AOs X.w)) (.SetComp elt [⟨tg, iter, ifs, 0⟩] scope pos) (mSc ms t mt me (own.map (·.2))) := by
  have pb := fun s H C cl fp => (pbm_add (X := X) (E := E) (he s H C cl fp)).pbd
  exact pxm_co (kd := .s elt) (r := []) (act := fun ce acc => (Kd.s elt).emit acc ce) (ws := []) (ho := fun a => SetM X.w a []) (acc0 := []) (b := bAdd me) aok_s (fun io H D _ => ⟨[], rfl, List.Pairwise.nil, upd_same⟩) new_s hc hN (fun it acc ce => turn1 ..) hi ok eN eS (fun i h => by cases h) hg ht
    (tBd X.K (AOs X.w) E (bAdd me)) pb (fun D io σ H env S acc N er sr ao hn h => ⟨io, env, S, acc, er, sr, ao, hn, h⟩) hv hs
theorem pxm_sc2 {N : List Str} {sc : Scope} {elt tg iter tg1 iter1 : Expr} {ifs ifs1 : List Expr} {scope : Scope} {own : List (Str × Nat)} {vs1 : List Nat} {pos : Pos} {ms ms1 : Ev → M Src} {t t1 : Tg} {mt mt1 : Ev → M Bool} {me : Ev → M Val} (hc : X.calm = true) (hN : X.N.Nodup) (hi : PIm X E tg iter ms) (ok : blkC N sc scope own = true) (eN : X.N = N) (eS : X.env.scope = sc)
    (hg : ∀ (s : Shared) (H : Hp) (C : Addr) (cl : List (Str × Addr)) (fp : List Addr), PGt (X.blk s H scope (compEnvC scope cl C X.env) fp) tg t) (ht : ∀ (s : Shared) (H : Hp) (C : Addr) (cl : List (Str × Addr)) (fp : List Addr), PTsm (X.blk s H scope (compEnvC scope cl C X.env) fp) E ifs mt)
    (hi1 : ∀ (s : Shared) (H : Hp) (C : Addr) (cl : List (Str × Addr)) (fp : List Addr), PIm (X.blk s H scope (compEnvC scope cl C X.env) fp) E tg1 iter1 ms1)
    (hg1 : ∀ (s : Shared) (H : Hp) (C : Addr) (cl : List (Str × Addr)) (fp : List Addr), PGt (X.blk s H scope (compEnvC scope cl C X.env) fp) tg1 t1) (ht1 : ∀ (s : Shared) (H : Hp) (C : Addr) (cl : List (Str × Addr)) (fp : List Addr), PTsm (X.blk s H scope (compEnvC scope cl C X.env) fp) E ifs1 mt1)
    (he : ∀ (s : Shared) (H : Hp) (C : Addr) (cl : List (Str × Addr)) (fp : List Addr), PEm (X.blk s H scope (compEnvC scope cl C X.env) fp) E elt me) (hv : ∀ j ∈ tgS t, j ∈ own.map (·.2)) (hv1 : ∀ j ∈ tgS t1, j ∈ vs1) (hw : ∀ i ∈ vs1, i ∈ own.map (·.2))
    (hs : ∀ x, foldedSetIterable iter X.env x = pure x := by intro _; rfl) (hs1 : ∀ env x, foldedSetIterable iter1 env x = pure x := by intro _ _; rfl) :
    PXm X E (RA (AOs X.w)) (.SetComp elt [⟨tg, iter, ifs, 0⟩, ⟨tg1, iter1, ifs1, 0⟩] scope pos) (mSc2 ms t mt ms1 t1 mt1 me (own.map (·.2)) vs1) := by
  have pb := fun s H C cl fp => (pbm_in (X := X) (E := E) aok_s hc (kd := .s elt) (gs := [⟨tg, iter, ifs, 0⟩, ⟨tg1, iter1, ifs1, 0⟩]) (pos := pos) (by rw [clauses_kd]; rfl) (fun it acc => turn2i ..) (hi1 s H C cl fp) (hg1 s H C cl fp) (ht1 s H C cl fp) (pbm_add (he s H C cl fp)) hv1 (hs1 _)).pbd
  exact pxm_co (kd := .s elt) (act := fun ce acc => innerB (.s elt) [⟨tg, iter, ifs, 0⟩, ⟨tg1, iter1, ifs1, 0⟩] iter1 scope pos acc ce) (ws := vs1) (ho := fun a => SetM X.w a []) (acc0 := []) (b := bIn ms1 t1 mt1 (bAdd me) vs1) aok_s (fun io H D _ => ⟨[], rfl, List.Pairwise.nil, upd_same⟩) new_s hc hN (fun it acc ce => turn2o ..) hi ok eN eS hw hg ht
    (tBd X.K (AOs X.w) E (bIn ms1 t1 mt1 (bAdd me) vs1)) pb (fun D io σ H env S acc N er sr ao hn h => ⟨io, env, S, acc, er, sr, ao, hn, h⟩) hv hs
end
/-! ### sorted(xs) -/
def okS (ds : List PyData) : Bool := (ds.all fun d => ds.all fun e => PySem.W.alike d e) && ((ds.all fun d => match d with | .tuple (_ :: _) => true | _ => false) || ds.all fun d => match d with | .tuple _ => false | .none => false | _ => true) && ds.all fun d => decide (d.depth ≤ 60)
theorem okS_iff {ds : List PyData} (h : okS ds = true) : PySem.W.AllAlike ds ∧ PySem.W.Sortable ds ∧ ∀ d ∈ ds, d.depth ≤ 60 := by
  unfold okS at h
  rw [Bool.and_eq_true, Bool.and_eq_true, Bool.or_eq_true, List.all_eq_true, List.all_eq_true, List.all_eq_true, List.all_eq_true] at h
  obtain ⟨⟨h1, h2⟩, h3⟩ := h
  refine ⟨fun d hd e he => List.all_eq_true.mp (h1 d hd) e he, h2.imp (fun h d hd => ?_) fun h d hd => ?_, fun d hd => of_decide_eq_true (h3 d hd)⟩
  · have := h d hd
    cases d with
    | tuple xs => cases xs with
      | nil => simp at this
      | cons x r => exact ⟨x, r, rfl⟩
    | _ => simp at this
  · have := h d hd
    cases d with
    | tuple xs => simp at this
    | none => simp at this
    | _ => exact ⟨(by intro z; cases z), fun xs z => by cases z⟩
def rSortL (K : PySem.W.Frag) : List V → Hp → VK → Prop := fun vs H Q => ∃ (a : Addr) (ts : List (Val × V × PyData)), vs = [V.ref a] ∧ SqL K H a (ts.map (·.2.1)) ∧ (∀ t ∈ ts, Dp K H t.2.1 t.2.2) ∧ okS (ts.map (·.2.2)) = true ∧
  ∀ p, H p = none → Q (.ref p) (upd H p (.lst ((ts.mergeSort (PySem.W.dataLe false fun t => t.2.2)).map (·.2.1))))
theorem each_ts {R : Value → Val × V × PyData → Prop} : ∀ {ts : List (Val × V × PyData)} {us : List Value}, Vals (ts.map (·.2.1)) us → (∀ t ∈ ts, ∀ u, RelV t.2.1 u → R u t) → PySem.W.EachIs R us ts
  | [], us, r, h => by cases r; exact .nil
  | t :: ts, us, r, h => by
    rw [List.map_cons] at r
    cases r with
    | cons r1 r2 => exact .cons (h t List.mem_cons_self _ r1) (each_ts r2 fun t' ht => h t' (List.mem_cons_of_mem _ ht))
theorem ts_vals : ∀ {us : List Value} {ts : List (Val × V × PyData)}, PySem.W.EachIs (fun v t => RelV t.2.1 v) us ts → Vals (ts.map (·.2.1)) us
  | _, _, .nil => .nil
  | _, _, .cons r t => .cons r (ts_vals t)
section
variable {X : Cx}
theorem cr_sortL (hu : X.A.units + 66 < cLine) : CallR X (.builtin "sorted") (rSortL X.K) := by
  intro pins s σ H vs us Q I r h
  obtain ⟨a, ts, rfl, hs, hd, ok, q⟩ := h
  obtain ⟨its, rv, hl, hz⟩ := I.list hs
  rw [Vals.ref1 r]
  obtain ⟨o1, o2, o3⟩ := okS_iff ok
  have hz2 : ts.length ≤ sizeLine := by rw [List.length_map] at hz; exact hz
  refine PySem.W.sorted_data (β := Val × V × PyData) (R := fun v t => RelV t.2.1 v) (enc := fun t => t.2.2) hl.isList (each_ts rv fun t _ u r => r) (each_ts rv fun t ht u r => Dp.reads I t.2.2 t.2.1 u (hd t ht) r) o1 o2 hz2 (fun t ht => ?_) fun out ol eo => ?_
  · have := o3 t.2.2 (List.mem_map.mpr ⟨t, ht, rfl⟩)
    omega
  · obtain ⟨ep, he'⟩ := PyProof.Rows.sortedAll_at s.heap its out.toArray
    have lz : ((ts.mergeSort (PySem.W.dataLe false fun t => t.2.2)).map (·.2.1)).length ≤ sizeLine := by rw [List.length_map, (List.mergeSort_perm _ _).length_eq]; exact hz2
    exact ⟨.ref _, upd H (s.heap.objs.size + 1) (.lst ((ts.mergeSort (PySem.W.dataLe false fun t => t.2.2)).map (·.2.1))), I.laid (t' := s.toks) (fun _ _ => PyProof.Rows.sortedAll_old) (Nat.le_succ _) ⟨lz, out, ep, ts_vals eo, he'⟩, rfl, q _ (I.hok.fresh (Nat.le_succ _))⟩
end
def lSort (xs : List Val) (S : Sto) : Option (List Val) := match datVs (fun m => dat S deep (.loc m)) xs with
  | some ds => if okS ds = true then some (((xs.zip ds).mergeSort (PySem.W.dataLe false fun t => t.2)).map (·.1)) else none
  | none => none
def mSort {α : Type} (L : α → Sto → Option (List Val)) (m : Ev → M α) : Ev → M (List Val) := fun env S => (m env S).bind fun x S1 => match (L x S1).bind fun xs => lSort xs S1 with
  | some ys => .ok ys S1
  | none => .bad
structure QView {α : Type} (K : PySem.W.Frag) (R : Hp → List Addr → Hp → α → V → Prop) (L : α → Sto → Option (List Val)) : Prop where
  mono : ∀ {B H H' : Hp} {io io' : List Addr} {x : α} {v : V}, Le K io H io' H' → R B io H x v → R B io' H' x v
  at_ : ∀ {B H : Hp} {io : List Addr} {S : Sto} {x : α} {v : V} {xs : List Val}, SR K io H S → R B io H x v → L x S = some xs → ∃ a vs, v = .ref a ∧ SqL K H a vs ∧ VRs K io H xs vs
theorem LView.q {α : Type} {K : PySem.W.Frag} {R : Hp → List Addr → Hp → α → V → Prop} {L : α → Sto → Option (List Val)} (w : LView K R L) : QView K R L := ⟨w.mono, fun s r e => let ⟨a, vs, h1, h2, h3⟩ := w.at_ s r e; ⟨a, vs, h1, SqL.of h2, h3⟩⟩
theorem trip {K : PySem.W.Frag} {io : List Addr} {H : Hp} {S : Sto} (s : SR K io H S) : ∀ {xs : List Val} {vs : List V} {ds : List PyData}, VRs K io H xs vs → datVs (fun m => dat S deep (.loc m)) xs = some ds →
    ∃ ts : List (Val × V × PyData), ts.map (·.1) = xs ∧ ts.map (·.2.1) = vs ∧ ts.map (·.2.2) = ds ∧ ∀ t ∈ ts, VR K io H t.1 t.2.1 ∧ Dp K H t.2.1 t.2.2
  | [], vs, ds, r, e => by cases r; cases e; exact ⟨[], rfl, rfl, rfl, fun t h => by cases h⟩
  | x :: xs, vs, ds, ⟨v, ws, ev, r, k⟩, e => by
    subst ev
    simp only [datVs] at e
    cases e1 : datV (fun m => dat S deep (.loc m)) x with
    | none => rw [e1] at e; cases e
    | some d =>
      rw [e1] at e
      cases e2 : datVs (fun m => dat S deep (.loc m)) xs with
      | none => simp [e2] at e
      | some es =>
        simp [e2] at e
        subst e
        obtain ⟨ts, t1, t2, t3, t4⟩ := trip s k e2
        refine ⟨(x, v, d) :: ts, by rw [List.map_cons, t1], by rw [List.map_cons, t2], by rw [List.map_cons, t3], fun t ht => ?_⟩
        rcases List.mem_cons.mp ht with rfl | ht
        · exact ⟨r, datV_dp (fun m a d hi h => dat_dp s deep (.loc m) _ d ⟨a, hi, rfl⟩ h) x v d r e1⟩
        · exact t4 t ht
theorem ts_vrs {K : PySem.W.Frag} {io : List Addr} {H : Hp} : ∀ {ts : List (Val × V × PyData)}, (∀ t ∈ ts, VR K io H t.1 t.2.1) → VRs K io H (ts.map (·.1)) (ts.map (·.2.1))
  | [], _ => rfl
  | t :: ts, h => ⟨_, _, rfl, h t List.mem_cons_self, ts_vrs fun t' ht => h t' (List.mem_cons_of_mem _ ht)⟩
theorem zip_ts : ∀ (ts : List (Val × V × PyData)), (ts.map (·.1)).zip (ts.map (·.2.2)) = ts.map fun t => (t.1, t.2.2)
  | [] => rfl
  | t :: ts => by rw [List.map_cons, List.map_cons, List.zip_cons_cons, zip_ts ts]; rfl
section
variable {X : Cx} {E : XK} {a : Expr} {p pos : Pos} {α : Type} {R : Hp → List Addr → Hp → α → V → Prop} {L : α → Sto → Option (List Val)} {m : Ev → M α}
theorem plm_sort (hu : X.A.units + 66 < cLine) (w : QView X.K R L) (hm : X.mg "sorted" = none) (ha : PXm X E R a m) (hg : Gl X "sorted" := by rfl)
    (he : starEach [a] X.env = [(false, eval a X.env)] := by rfl) (hpl : (backTo pos (starEach [] X.env)).any (·.1) = false := by rfl) : PLm X E (.Call (.Name "sorted" p) [a] [] pos) (mSort L m) := by
  obtain ⟨ta, pa, qa⟩ := ha.ex
  refine ⟨_, pe_callB (cr_sortL hu) hg hm (by decide +kernel) (pa_cons pa pa_nil he) (by decide) (by decide) he hpl, fun io σ H env S Q er sr h => ?_⟩
  refine qa io σ H env S _ er sr (fin_bind h fun x S1 io1 H1 v _ l1 s1 r1 h1 => ?_)
  cases e1 : L x S1 with
  | none => simp only [e1, Option.bind_none] at h1; exact h1.elim
  | some xs =>
    obtain ⟨q, vs, rfl, hv, k⟩ := w.at_ s1 r1 e1
    simp only [e1, Option.bind_some, lSort] at h1
    cases e2 : datVs (fun m => dat S1 deep (.loc m)) xs with
    | none => simp only [e2] at h1; exact h1.elim
    | some ds =>
      simp only [e2] at h1
      by_cases ho : okS ds = true
      · simp only [if_pos ho] at h1
        obtain ⟨ts, t1, t2, t3, t4⟩ := trip s1 k e2
        subst t1 t2 t3
        refine ⟨q, ts, rfl, hv, fun t ht => (t4 t ht).2, ho, fun D hD => ?_⟩
        refine newR_fin (E := E) l1 s1 (xs := (ts.mergeSort (PySem.W.dataLe false fun t => t.2.2)).map (·.1)) (ts_vrs fun t ht => (t4 t ((List.mergeSort_perm _ _).mem_iff.mp ht)).1) hD ?_
        rw [zip_ts, ← List.map_mergeSort (r := PySem.W.dataLe false fun t : Val × V × PyData => t.2.2) (f := fun t => (t.1, t.2.2)) (fun a _ b _ => rfl), List.map_map] at h1
        exact h1
      · simp only [if_neg ho] at h1
        exact h1.elim
end
end Mx

set_option linter.all false
set_option maxRecDepth 100000
set_option maxHeartbeats 4000000
namespace Mx
open PySem PySem.Spec PyProof.Rows L2
/-! ### dicts whose keys are numbers and texts -/
/-- in its place, or at the end -/
def putD (kvs : List (Key × Val)) (k : Key) (x : Val) : List (Key × Val) := if (kvs.any fun p => decide (p.1 = k)) = true then kvs.map (fun p => if p.1 = k then (p.1, x) else p) else kvs ++ [(k, x)]
def getD (kvs : List (Key × Val)) (k : Key) : Option Val := (kvs.find? fun p => decide (p.1 = k)).map (·.2)
theorem putD_len (kvs : List (Key × Val)) (k : Key) (x : Val) : (putD kvs k x).length ≤ kvs.length + 1 := by
  unfold putD
  split
  · rw [List.length_map]; omega
  · rw [List.length_append]; exact Nat.le_refl _
section
variable {K : PySem.W.Frag} {io : List Addr} {H : Hp}
/-- the pairs, as they lie -/
def KVs (K : PySem.W.Frag) (io : List Addr) (H : Hp) : List (Key × Val) → List (Key × V) → Prop
  | [], ws => ws = []
  | p :: ps, ws => ∃ v r, ws = (p.1, v) :: r ∧ VR K io H p.2 v ∧ KVs K io H ps r
theorem KVs.zip : ∀ {kvs : List (Key × Val)} {ws : List (Key × V)}, KVs K io H kvs ws → ∃ vs, ws = (kvs.map (·.1)).zip vs ∧ VRs K io H (kvs.map (·.2)) vs
  | [], ws, h => ⟨[], h, rfl⟩
  | p :: ps, ws, ⟨v, r, e, h, k⟩ => by
    obtain ⟨vs, e2, k2⟩ := KVs.zip k
    exact ⟨v :: vs, by rw [e, e2]; rfl, v, vs, rfl, h, k2⟩
theorem KVs.of : ∀ {kvs : List (Key × Val)} {vs : List V}, VRs K io H (kvs.map (·.2)) vs → KVs K io H kvs ((kvs.map (·.1)).zip vs)
  | [], vs, h => rfl
  | p :: ps, vs, ⟨v, r, e, h, k⟩ => by
    subst e
    exact ⟨v, _, rfl, h, KVs.of k⟩
theorem KVs.length : ∀ {kvs : List (Key × Val)} {ws : List (Key × V)}, KVs K io H kvs ws → ws.length = kvs.length
  | [], ws, h => by cases h; rfl
  | p :: ps, ws, ⟨v, r, e, h, k⟩ => by rw [e, List.length_cons, List.length_cons, KVs.length k]
theorem KVs.app : ∀ {a b : List (Key × Val)} {c d : List (Key × V)}, KVs K io H a c → KVs K io H b d → KVs K io H (a ++ b) (c ++ d)
  | [], b, c, d, h, k => by cases h; exact k
  | p :: ps, b, c, d, ⟨v, r, e, h, t⟩, k => by subst e; exact ⟨v, _, rfl, h, KVs.app t k⟩
theorem KVs.any (k : Key) : ∀ {kvs : List (Key × Val)} {ws : List (Key × V)}, KVs K io H kvs ws → (ws.any fun p => decide (p.1 = k)) = kvs.any fun p => decide (p.1 = k)
  | [], ws, h => by cases h; rfl
  | p :: ps, ws, ⟨v, r, e, h, t⟩ => by rw [e, List.any_cons, List.any_cons, KVs.any k t]
theorem KVs.setK {x : Val} {v : V} (k : Key) (hx : VR K io H x v) : ∀ {kvs : List (Key × Val)} {ws : List (Key × V)}, KVs K io H kvs ws →
    KVs K io H (kvs.map fun p => if p.1 = k then (p.1, x) else p) (ws.map fun p => if p.1 = k then (p.1, v) else p)
  | [], ws, h => by cases h; rfl
  | p :: ps, ws, ⟨u, r, e, h, t⟩ => by
    subst e
    rw [List.map_cons, List.map_cons]
    by_cases hk : p.1 = k
    · rw [if_pos hk, if_pos hk]
      exact ⟨v, _, rfl, hx, KVs.setK k hx t⟩
    · rw [if_neg hk, if_neg hk]
      exact ⟨u, _, rfl, h, KVs.setK k hx t⟩
theorem KVs.put {x : Val} {v : V} {kvs : List (Key × Val)} {ws : List (Key × V)} (h : KVs K io H kvs ws) (k : Key) (hx : VR K io H x v) : KVs K io H (putD kvs k x) (putK ws k v) := by
  unfold putD putK
  rw [h.any k]
  split
  · exact h.setK k hx
  · exact h.app ⟨v, [], rfl, hx, rfl⟩
theorem KVs.get {k : Key} : ∀ {kvs : List (Key × Val)} {ws : List (Key × V)}, KVs K io H kvs ws → match getD kvs k with
    | some x => ∃ v, valV ws k = some v ∧ VR K io H x v
    | none => valV ws k = none
  | [], ws, h => by cases h; rfl
  | p :: ps, ws, ⟨u, r, e, h, t⟩ => by
    subst e
    unfold getD valV
    rw [List.find?_cons, List.find?_cons]
    by_cases hk : p.1 = k
    · simp only [hk, decide_true]
      exact ⟨u, rfl, h⟩
    · simp only [hk, decide_false]
      exact KVs.get t
theorem VRs.kvs {io' : List Addr} {H' : Hp} (hv : ∀ xs vs, VRs K io H xs vs → VRs K io' H' xs vs) {kvs : List (Key × Val)} {ws : List (Key × V)} (h : KVs K io H kvs ws) : KVs K io' H' kvs ws := by
  obtain ⟨vs, e, k⟩ := h.zip
  rw [e]
  exact KVs.of (hv _ _ k)
/-- a dict that the store does not hold -/
def AOd (K : PySem.W.Frag) (io : List Addr) (H : Hp) (kvs : List (Key × Val)) (D : Addr) : Prop := ∃ ws, H D = some (.dK ws) ∧ KVs K io H kvs ws
theorem aok_d : AOk K (AOd K) := ⟨fun l hn ⟨vs, e, k⟩ => ⟨vs, (l.fr _ _ e hn).1, VRs.kvs (fun _ _ => VRs.mono l _ _) k⟩, fun l hn ⟨vs, e, _⟩ => (l.fr _ _ e hn).2, fun ⟨vs, e, _⟩ => by rw [e]; intro z; cases z⟩
theorem dk_tu {D : Addr} {ws us : List (Key × V)} (hD : H D = some (.dK ws)) : (∀ (a : Addr) (xs : List V), SqT K H a xs → SqT K (upd H D (.dK us)) a xs) ∧ ∀ (a : Addr) (xs : List V), SqF K H a xs → SqF K (upd H D (.dK us)) a xs := by
  refine ⟨fun a xs h => ?_, fun a xs h => ?_⟩
  · rcases h with h | h
    · rcases h with h | ⟨x, h⟩
      · exact .inl (.inl (by rw [upd_ne (ne_of h hD (by intro z; cases z))]; exact h))
      · exact .inl (.inr ⟨x, by rw [upd_ne (ne_of h hD (by intro z; cases z))]; exact h⟩)
    · exact .inr h
  · rcases h with ⟨x, h⟩ | h
    · exact .inl ⟨x, by rw [upd_ne (ne_of h hD (by intro z; cases z))]; exact h⟩
    · exact .inr h
theorem SR.dk {S : Sto} {D : Addr} {ws us : List (Key × V)} (s : SR K io H S) (hD : H D = some (.dK ws)) (hi : D ∉ io) : SR K io (L2.upd H D (.dK us)) S := by
  refine ⟨s.len, s.inj, fun n a o h1 h2 => ?_⟩
  have na : a ≠ D := fun e => hi (by rw [← e]; exact List.mem_of_getElem? h1)
  exact (s.obj n a o h1 h2).keep (upd_ne na) (fun b x hb hn => ⟨by rw [upd_ne (ne_of hb hD (by intro z; cases z))]; exact hb, hn⟩) fun xs vs k => (VR.up (dk_tu hD).1 (dk_tu hD).2).2 _ _ k
/-- an object that the store does not hold is put into it -/
theorem SR.ownO {S : Sto} {p : Addr} {o : Ob} (r : SR K io H S) (hp : p ∉ io) (ho : ∀ x, H p ≠ some (.own x)) (h : OR K io H o p) (hi : ∀ b x, H b = some (.own x) → b ∉ io → b ∉ io ++ [p]) : SR K (io ++ [p]) H (S ++ [o]) := by
  have up : ∀ (n : Nat) (a : Addr), io[n]? = some a → (io ++ [p])[n]? = some a := fun n a h => by
    rw [List.getElem?_append_left (List.getElem?_eq_some_iff.mp h).1]; exact h
  have lim : ∀ (n : Nat) (a : Addr), (io ++ [p])[n]? = some a → (io[n]? = some a ∧ n < io.length) ∨ (n = io.length ∧ a = p) := fun n a e => by
    by_cases hn : n < io.length
    · rw [List.getElem?_append_left hn] at e
      exact .inl ⟨e, hn⟩
    · have hl := (List.getElem?_eq_some_iff.mp e).1
      rw [List.length_append, List.length_singleton] at hl
      have e0 : n = io.length := by omega
      subst e0
      rw [List.getElem?_append_right (Nat.le_refl _), Nat.sub_self] at e
      exact .inr ⟨rfl, (Option.some.inj e).symm⟩
  have kp : ∀ {o : Ob} {a : Addr}, OR K io H o a → OR K (io ++ [p]) H o a := fun q => q.keep rfl (fun b x hb hn => ⟨hb, hi b x hb hn⟩) fun xs vs h => VRs.grow up xs vs h
  refine ⟨by rw [List.length_append, List.length_append, r.len]; rfl, fun n m a h1 h2 => ?_, fun n a o h1 h2 => ?_⟩
  · rcases lim n a h1 with ⟨e1, _⟩ | ⟨rfl, rfl⟩
    · rcases lim m a h2 with ⟨e2, _⟩ | ⟨rfl, rfl⟩
      · exact r.inj n m a e1 e2
      · exact absurd (List.mem_of_getElem? e1) hp
    · rcases lim m a h2 with ⟨e2, _⟩ | ⟨h, _⟩
      · exact absurd (List.mem_of_getElem? e2) hp
      · exact h.symm
  · rcases lim n a h1 with ⟨e1, hn⟩ | ⟨rfl, rfl⟩
    · rw [List.getElem?_append_left (by rw [← r.len]; exact hn)] at h2
      exact kp (r.obj n a o e1 h2)
    · rw [r.len, List.getElem?_append_right (Nat.le_refl _), Nat.sub_self] at h2
      have e := Option.some.inj h2
      subst e
      exact kp h
end
/-- d[k] = v in a comprehension -/
def bPut (mk mv : Ev → M Val) : Ev → List (Key × Val) → M (List (Key × Val)) := fun env acc S => (mk env S).bind fun x S1 => (mv env S1).bind fun y S2 => match asKey x with
  | some k => if acc.length < lim then .ok (putD acc k y) S2 else .bad
  | none => .bad
section
variable {X : Cx} {E : XK} {s0 : Shared} {H0 : Hp} {scope : Scope} {ce : Env} {fq : List Addr}
theorem pbm_put {kx vx : Expr} {mk mv : Ev → M Val} (hk : PEm (X.blk s0 H0 scope ce fq) E kx mk) (hx : PEm (X.blk s0 H0 scope ce fq) E vx mv) : PBm (X.blk s0 H0 scope ce fq) [] (AOd X.K) E (fun acc => (Kd.d kx vx).emit acc ce) (bPut mk mv) := by
  obtain ⟨tk, pk, qk⟩ := hk.ex
  obtain ⟨tv, pv, qv⟩ := hx.ex
  refine ⟨fun D σ H N => tk σ H fun y H4 => tv σ H4 fun z H5 => ∃ kvs k, y = kV k ∧ H5 D = some (.dK kvs) ∧ kvs.length < sizeLine ∧ N (upd H5 D (.dK (putK kvs k z))), ⟨fun D pins s σ H N I h => ?_⟩, fun D io σ H env S acc N er sr ao hn h => ?_⟩
  · show wpAny _ _ (eval kx ce >>= fun x => holding [x] (eval vx ce) >>= fun y => standAt { kx.pos with endLine := vx.pos.endLine, endCol := vx.pos.endCol } >>= fun _ => holding [x, y] (dictSet D x y)) _ _ s
    refine wpAny_bind (thnF (pk.run pins s σ H _ I h) fun v s1 ⟨y, H1, I1, r1, q1⟩ => ?_)
    refine wpAny_bind (wpAny_holding (thnF (pv.run pins s1 σ H1 _ I1 q1) fun u s2 ⟨z, H2, I2, r2, kvs, k, e0, e1, z1, n1⟩ => ?_))
    subst e0
    exact wpAny_bind (wpAny_standAt (wpAny_holding (d_dictSet (X := X.blk s0 H0 scope ce fq) I2 e1 z1 r1 r2 fun s3 I3 => ⟨_, I3, n1⟩)))
  · refine qk io σ H env S _ er sr (finA_bind h fun y S1 io1 H1 v _ l1 s1 r1 h1 => ?_)
    have ao1 := (aok_d (K := X.K)).mono l1 hn ao
    have n1 := (aok_d (K := X.K)).out l1 hn ao
    refine qv io1 σ H1 env S1 _ (er.mono l1) s1 (finA_bind h1 fun z S2 io2 H2 u _ l2 s2 r2 h2 => ?_)
    obtain ⟨ws, e1, kk⟩ := (aok_d (K := X.K)).mono l2 n1 ao1
    have n2 := (aok_d (K := X.K)).out l2 n1 ao1
    cases ek : asKey y with
    | none => simp only [ek] at h2; exact h2.elim
    | some k =>
      simp only [ek] at h2
      by_cases hl : acc.length < lim
      · rw [if_pos hl] at h2
        refine ⟨ws, k, vr_key ek (VR.mono l2 _ _ r1), e1, by rw [kk.length]; exact lim_lt hl, h2 io2 _ ⟨fun _ _ h => h, (dk_tu e1).1, (dk_tu e1).2, fun a o e k d => ⟨by rw [upd_ne d]; exact e, k⟩⟩ (s2.dk e1 n2) ⟨_, upd_same, VRs.kvs (fun xs vs => (VR.up (dk_tu e1).1 (dk_tu e1).2).2 xs vs) (kk.put k r2)⟩ n2⟩
      · rw [if_neg hl] at h2
        exact h2.elim
end
theorem new_d {X : Cx} {a b : Expr} : NewOk X (.d a b) fun _ => .dK [] := ⟨fun A E s Q hb h => by
  show wpAny _ _ (newObj (.type "dict") (.dict #[])) _ _ s
  exact wpAny_newObj_type (h _ (fun b o e => Heap.get?_push_of_some _ e) (Heap.size_push ..) fun H => dk_empty s.heap hb) (by size_fits)⟩
def mDc (ms : Ev → M Src) (t : Tg) (mt : Ev → M Bool) (mk mv : Ev → M Val) (vs : List Nat) : Ev → M (List (Key × Val)) := mCo ms t mt (bPut mk mv) vs []
def mNewD (a : Ev → M (List (Key × Val))) : Ev → M Val := fun env S => (a env S).bind fun kvs S1 => .ok (.loc S1.length) (S1 ++ [.dic kvs])
section
variable {X : Cx} {E : XK}
theorem pxm_dc {N : List Str} {sc : Scope} {kx vx tg iter : Expr} {ifs : List Expr} {scope : Scope} {own : List (Str × Nat)} {pos : Pos} {ms : Ev → M Src} {t : Tg} {mt : Ev → M Bool} {mk mv : Ev → M Val} (hc : X.calm = true) (hN : X.N.Nodup) (hi : PIm X E tg iter ms) (ok : blkC N sc scope own = true) (eN : X.N = N) (eS : X.env.scope = sc)
    (hg : ∀ (s : Shared) (H : Hp) (C : Addr) (cl : List (Str × Addr)) (fp : List Addr), PGt (X.blk s H scope (compEnvC scope cl C X.env) fp) tg t) (ht : ∀ (s : Shared) (H : Hp) (C : Addr) (cl : List (Str × Addr)) (fp : List Addr), PTsm (X.blk s H scope (compEnvC scope cl C X.env) fp) E ifs mt)
    (hk : ∀ (s : Shared) (H : Hp) (C : Addr) (cl : List (Str × Addr)) (fp : List Addr), PEm (X.blk s H scope (compEnvC scope cl C X.env) fp) E kx mk)
    (he : ∀ (s : Shared) (H : Hp) (C : Addr) (cl : List (Str × Addr)) (fp : List Addr), PEm (X.blk s H scope (compEnvC scope cl C X.env) fp) E vx mv) (hv : ∀ j ∈ tgS t, j ∈ own.map (·.2)) (hs : ∀ x, foldedSetIterable iter X.env x = pure x := by intro _; rfl) :
    PXm X E (RA (AOd X.K)) (.DictComp kx vx [⟨tg, iter, ifs, 0⟩] scope pos) (mDc ms t mt mk mv (own.map (·.2))) := by
  have pb := fun s H C cl fp => (pbm_put (X := X) (E := E) (hk s H C cl fp) (he s H C cl fp)).pbd
  exact pxm_co (kd := .d kx vx) (r := []) (act := fun ce acc => (Kd.d kx vx).emit acc ce) (ws := []) (ho := fun _ => .dK []) (acc0 := []) (b := bPut mk mv) aok_d (fun io H D _ => ⟨[], upd_same, rfl⟩) new_d hc hN (fun it acc ce => turn1 ..) hi ok eN eS (fun i h => by cases h) hg ht
    (tBd X.K (AOd X.K) E (bPut mk mv)) pb (fun D io σ H env S acc N er sr ao hn h => ⟨io, env, S, acc, er, sr, ao, hn, h⟩) hv hs
theorem newD_fin {io io1 : List Addr} {H H1 : Hp} {S1 : Sto} {kvs : List (Key × Val)} {v : V} {Q : VK} (l1 : Le X.K io H io1 H1) (s1 : SR X.K io1 H1 S1) (r1 : RA (AOd X.K) H io1 H1 kvs v) (h : FinG X.K (VR X.K) E io H Q (.ok (.loc S1.length) (S1 ++ [.dic kvs]))) : Q v H1 := by
  obtain ⟨D, rfl, ⟨ws, hD, k⟩, hb, hi⟩ := r1
  obtain ⟨vs, e, k2⟩ := k.zip
  subst e
  refine fin_ok h (l1.own hb hi) (s1.ownO hi (fun x => by rw [hD]; intro z; cases z) ⟨vs, hD, k2⟩ fun b x hb hn z => ?_) ⟨D, ?_, rfl⟩
  · rcases List.mem_append.mp z with z | z
    · exact hn z
    · rw [List.mem_singleton.mp z, hD] at hb
      cases hb
  · rw [← s1.len, List.getElem?_append_right (Nat.le_refl _), Nat.sub_self]
    rfl
theorem pem_newD {e : Expr} {m : Ev → M (List (Key × Val))} (h : PXm X E (RA (AOd X.K)) e m) : PEm X E e (mNewD m) := by
  obtain ⟨t, p, q⟩ := h.ex
  refine ⟨t, p, fun io σ H env S Q er sr h => ?_⟩
  refine q io σ H env S Q er sr (fin_bind h fun kvs S1 io1 H1 v eo l1 s1 r1 _ => ?_)
  have h2 : FinG X.K (VR X.K) E io H Q (mNewD m env S) := h
  unfold mNewD at h2
  rw [eo] at h2
  exact newD_fin l1 s1 r1 h2
/-- y = {.. for ..} -/
theorem psm_setDc {N : List Str} {sc : Scope} {j : Nat} {y : Str} {py : Pos} {kx vx tg iter : Expr} {ifs : List Expr} {scope : Scope} {own : List (Str × Nat)} {pos spos : Pos} {ms : Ev → M Src} {t : Tg} {mt : Ev → M Bool} {mk mv : Ev → M Val} (hc : X.calm = true) (hN : X.N.Nodup) (hi : PIm X E tg iter ms) (ok : blkC N sc scope own = true) (eN : X.N = N) (eS : X.env.scope = sc)
    (hg : ∀ (s : Shared) (H : Hp) (C : Addr) (cl : List (Str × Addr)) (fp : List Addr), PGt (X.blk s H scope (compEnvC scope cl C X.env) fp) tg t) (ht : ∀ (s : Shared) (H : Hp) (C : Addr) (cl : List (Str × Addr)) (fp : List Addr), PTsm (X.blk s H scope (compEnvC scope cl C X.env) fp) E ifs mt)
    (hk : ∀ (s : Shared) (H : Hp) (C : Addr) (cl : List (Str × Addr)) (fp : List Addr), PEm (X.blk s H scope (compEnvC scope cl C X.env) fp) E kx mk)
    (he : ∀ (s : Shared) (H : Hp) (C : Addr) (cl : List (Str × Addr)) (fp : List Addr), PEm (X.blk s H scope (compEnvC scope cl C X.env) fp) E vx mv) (hv : ∀ j ∈ tgS t, j ∈ own.map (·.2))
    (hy : X.N[j]? = some y := by rfl) (hyl : X.env.scope.names.lookup y = some .local := by rfl) (hsw : swapsWith (Kd.mk (.d kx vx) [⟨tg, iter, ifs, 0⟩] scope pos) (some (.Name y py)) spos.line X.env = pure true := by exact sw_kd rfl rfl rfl (by decide +kernel)) (hs : ∀ x, foldedSetIterable iter X.env x = pure x := by intro _; rfl) :
    PSm X E (.Assign [.Name y py] (.DictComp kx vx [⟨tg, iter, ifs, 0⟩] scope pos) spos) (sAsg (.name j) (mNewD (mDc ms t mt mk mv (own.map (·.2))))) := by
  have pb := fun s H C cl fp => (pbm_put (X := X) (E := E) (hk s H C cl fp) (he s H C cl fp)).pbd
  obtain ⟨wi, pi, q⟩ := co_te (N := N) (sc := sc) (kd := .d kx vx) (ifs := ifs) (r := []) (pos := pos) (act := fun ce acc => (Kd.d kx vx).emit acc ce) (ws := []) (mt := mt) (E := E) (ho := fun _ => .dK []) (acc0 := []) (b := bPut mk mv) (scope := scope) aok_d (fun io H D _ => ⟨[], upd_same, rfl⟩) hi hg hv
  refine ⟨_, ps_setCo (kd := .d kx vx) (g := tgT X.K t) (tt := tT X.K E mt) (act := fun ce acc => (Kd.d kx vx).emit acc ce) (ws := []) (tb := tBd X.K (AOd X.K) E (bPut mk mv)) new_d hc hN hy hyl hsw (fun it acc ce => turn1 ..) pi (blkOk_by (by rw [eN, eS]; exact ok)) (fun i h => by cases h) (fun s H C cl fp => (hg s H C cl fp).pg) (fun s H C cl fp => (ht s H C cl fp).pt) pb hs, fun io σ H env S D er sr h => ?_⟩
  refine asg_run (t := .name j) (me := mNewD (mDc ms t mt mk mv (own.map (·.2)))) (fun io σ H env S Q er sr h => ?_) er sr h
  refine q _ (fun D io σ H env S acc N er sr ao hn h => ⟨io, env, S, acc, er, sr, ao, hn, h⟩) io σ H env S Q er sr (fin_bind h fun xs S1 io1 H1 v eo l1 s1 r1 _ => ?_)
  have h2 : FinG X.K (VR X.K) E io H Q (mNewD (mDc ms t mt mk mv (own.map (·.2))) env S) := h
  unfold mNewD at h2
  rw [show mDc ms t mt mk mv (own.map (·.2)) env S = _ from eo] at h2
  exact newD_fin l1 s1 r1 h2
end
/-- d.get(k) -/
def mGet1 (o e : Ev → M Val) : Ev → M Val := fun env S => (o env S).bind fun l S1 => match l with
  | .loc n => (match S1[n]? with
    | some (.dic _) => (e env S1).bind fun x S2 => (match S2[n]?, asKey x with
      | some (.dic kvs), some k => .ok ((getD kvs k).getD .non) S2
      | _, _ => .bad)
    | _ => .bad)
  | _ => .bad
section
variable {X : Cx} {E : XK} {o e : Expr} {mo me : Ev → M Val} {apos cpos : Pos}
theorem or_dic {K : PySem.W.Frag} {io : List Addr} {H : Hp} {kvs : List (Key × Val)} {a : Addr} (h : OR K io H (.dic kvs) a) : ∃ ws : List (Key × V), H a = some (HO.dK ws) ∧ KVs K io H kvs ws := by
  obtain ⟨vs, e, k⟩ := h
  exact ⟨_, e, KVs.of k⟩
theorem pem_get1 (hu : X.A.units + 66 < cLine) (ho : PEm X E o mo) (he : PEm X E e me) (m : M1 X o "get" apos e cpos := by exact ⟨rfl, by rfl, by rfl, by rfl⟩) : PEm X E (.Call (.Attribute o "get" apos) [e] [] cpos) (mGet1 mo me) := by
  obtain ⟨to, po, qo⟩ := ho.ex
  obtain ⟨te, pe, qe⟩ := he.ex
  refine ⟨_, pe_dget1 (by omega) po pe m, fun io σ H env S Q er sr h => ?_⟩
  refine qo io σ H env S _ er sr (fin_bind h fun l S1 io1 H1 v _ l1 s1 r1 h1 => ?_)
  cases l with
  | loc n =>
    obtain ⟨q, hi, rfl⟩ := r1
    simp only at h1
    cases eo : S1[n]? with
    | none => simp only [eo] at h1; exact h1.elim
    | some ob =>
      cases ob with
      | dic kvs0 =>
        simp only [eo] at h1
        obtain ⟨ws0, hw0, _⟩ := or_dic (s1.is eo hi)
        refine ⟨q, rfl, .inl ⟨_, .inl hw0⟩, ?_⟩
        refine qe io1 σ H1 env S1 _ (er.mono l1) s1 (fin_bind h1 fun y S2 io2 H2 w _ l2 s2 r2 h2 => ?_)
        cases e2 : S2[n]? with
        | none => simp only [e2] at h2; exact h2.elim
        | some ob2 =>
          cases ek : asKey y with
          | none => simp only [e2, ek] at h2; exact h2.elim
          | some k =>
            cases ob2 with
            | dic kvs =>
              simp only [e2, ek] at h2
              obtain ⟨ws, hw, kk⟩ := or_dic (s2.is e2 (l2.ia n q hi))
              have g := kk.get (k := k)
              rw [vr_key ek r2]
              refine ⟨valV ws k, DGet.k hw, ?_⟩
              cases eg : getD kvs k with
              | none =>
                rw [eg] at g h2
                have g : valV ws k = none := g
                rw [g]
                exact fin_here h2 s2 rfl
              | some x =>
                rw [eg] at g h2
                obtain ⟨u, g1, g2⟩ := g
                rw [g1]
                exact fin_here h2 s2 g2
            | _ => simp only [e2, ek] at h2; exact h2.elim
      | _ => simp only [eo] at h1; exact h1.elim
  | _ => exact h1.elim
end
end Mx

set_option linter.all false
set_option maxRecDepth 100000
set_option maxHeartbeats 4000000
namespace Mx
open PySem PySem.Spec PyProof.Rows L2
/-! ### enumerate of a tuple -/
def IteT (K : PySem.W.Frag) (a : Addr) : It :=
  ⟨fun i H => ∃ (xs : List V) (x : V), SqT K H a xs ∧ xs[i]? = some x, fun i H v H' => ∃ T x, v = .ref T ∧ H T = none ∧ H' = upd H T (.tup [.int (i : Nat), x]) ∧ ∀ xs, SqT K H a xs → xs[i]? = some x, fun i H => ∃ xs : List V, SqT K H a xs ∧ xs.length ≤ i⟩
theorem turn_enumT {P : Program} {w : World} {K : PySem.W.Frag} {elts : List Expr} {kk : Nat} {tpos : Pos} (a e it : Addr) :
    Turn P w K (.Tuple elts kk tpos) (IteT K a) [e, it] e (fun i h => (∃ old, IsEnum h e it ((i : Nat) : Int) old) ∧ h.IsTupleIter it a i ∧ e ≠ it) where
  mem := by simp
  obj := fun i h st b hb => by
    obtain ⟨⟨old, he⟩, ⟨o, ho, hc, hd⟩, _⟩ := st
    have e' : b = e ∨ b = it := by simpa using hb
    rcases e' with z | z
    · rw [z]; exact ⟨_, he, fun v q => nomatch q⟩
    · rw [z]; exact ⟨o, ho, fun v q => by rw [hd] at q; cases q⟩
  keep := fun i h h' st k => let ⟨⟨old, he⟩, hi, hne⟩ := st; ⟨⟨old, k e (by simp) _ he⟩, hi.at fun o q => k it (by simp) o q, hne⟩
  item := by
    intro X hP hw hK hc i pins s σ H E I hf st hg
    subst hP hw hK
    obtain ⟨⟨old, he⟩, hit, hne⟩ := st
    obtain ⟨xs, x, hq, hx⟩ := hg
    obtain ⟨its, rv, p, hz⟩ := I.tuple hq
    obtain ⟨u, hu, ru⟩ := rv.get hx
    have hel : e < s.heap.objs.size := Heap.lt_size he
    have hil : it < s.heap.objs.size := by obtain ⟨_, q, _⟩ := hit; exact Heap.lt_size q
    have p2 : s.heap.IsTuple a its.toArray := p
    have hai : a ≠ it := fun z => by
      obtain ⟨o1, q1, c1, _⟩ := p2
      obtain ⟨o2, q2, c2, _⟩ := hit
      rw [z, q2] at q1
      cases q1
      rw [c2] at c1
      injection c1 with c1
      exact absurd c1 (by decide)
    have hea : e ≠ a := fun z => by
      obtain ⟨o1, q1, c1, _⟩ := p2
      rw [← z, he] at q1
      cases q1
      have c1 : Value.type "enumerate" = .type "tuple" := c1
      injection c1 with c1
      exact absurd c1 (by decide)
    have hlt : i < its.toArray.size := by
      rw [List.size_toArray]
      exact (List.getElem?_eq_some_iff.mp hu).1
    have D : Draws X.prog X.w X.A.in1 it [it, a] its.toArray.size (fun i v => its.toArray[i]? = some v) (fun i h => h.IsTupleIter it a i ∧ h.IsTuple a its.toArray) :=
      Draws.tuple (show X.A.in1.handled = none from I.ok.hd hc) it a hai its.toArray
    refine wpAny_pyNext_enum_itemD D he ⟨hit, p2⟩ hlt hne (by simp [hne, hea]) fun x0 h' tk hx0 ho hst hT hsz hk => ?_
    have ex : x0 = u := by
      rw [List.getElem?_toArray, hu] at hx0
      exact (Option.some.inj hx0).symm
    subst ex
    have hit' := hst.1
    refine ⟨_, rfl, wpAny_letOwnedTupleGo_enum (s := { s with heap := h', toks := tk + 1 }) ho fun h'' he' sb => ?_⟩
    have hT2 : h''.get? s.heap.objs.size = some { cls := .type "tuple", data := .seq #[.int i tk, x0] } := (sb.2 _ (Nat.ne_of_gt hel)).trans hT
    have new : ObjOk X.prog X.w (upd H s.heap.objs.size (.tup [.int (i : Nat), x])) h'' s.heap.objs.size (.tup [.int (i : Nat), x]) :=
      ⟨by show 2 ≤ sizeLine; decide, [.int i tk, x0], .cons ⟨_, rfl⟩ (.cons ru .nil), ⟨_, hT2, rfl, _, rfl⟩⟩
    have I1 : Inv X pins σ (upd H s.heap.objs.size (.tup [.int (i : Nat), x])) { s with heap := h'', toks := tk + 1 } :=
      I.turnedNew (ch := [e, it]) (fun b ob hb q => (sb.2 b (fun z => hb (by simp [z]))).trans (hk b ob (fun z => hb (by simp [z])) (fun z => hb (by simp [z])) q)) hf (Nat.le_refl _) new
    refine ⟨.ref s.heap.objs.size, _, I1, rfl, ⟨_, x, rfl, I.hok.fresh (Nat.le_refl _), rfl, fun ys hy => by rw [I.tuple_inj hy hq]; exact hx⟩, ⟨⟨x0, ?_⟩, hit'.at fun o q => (sb.2 it (Ne.symm hne)).trans q, hne⟩, fun b hb => ?_⟩
    · have e1 : ((i + 1 : Nat) : Int) = (i : Int) + 1 := by omega
      rw [e1]; exact he'
    · have hb' : b < s.heap.objs.size := by
        have e' : b = e ∨ b = it := by simpa using hb
        rcases e' with z | z
        · rw [z]; exact hel
        · rw [z]; exact hil
      rw [upd_ne (Nat.ne_of_lt hb')]
      exact (hf b hb).1
  done := by
    intro X hP hw hK hc i pins s σ H E I hf st hg
    subst hP hw hK
    obtain ⟨⟨old, he⟩, hit, hne⟩ := st
    obtain ⟨xs, hq, hx⟩ := hg
    obtain ⟨its, rv, p, hz⟩ := I.tuple hq
    obtain ⟨f0, f1, f2, f3, f4, f5⟩ := hf it (by simp)
    have hl := rv.length
    have p2 : s.heap.IsTuple a its.toArray := p
    have hT : s.TypeIs (.ref e) "enumerate" := ⟨_, he, rfl⟩
    unfold pyNext
    refine wpAny_bind (wpAny_attempt (wpAny_callSpecial?_slot (name := Str.ofString "__next__") hT F.slot_enumerate_next
      (wpAny_call_entry F.slot_enumerate_next hT F.entry_enumerate_next ?_ (F.args_enumerate_next_1 _))))
    show wpAny _ _ (field (.ref e) 2 >>= _) _ _ _
    refine wpAny_bind (wpAny_field he rfl (x := .ref it) rfl ?_)
    refine wpAny_bind (wpAny_nextOf_tuple_end (show X.A.in1.handled = none from I.ok.hd hc) hit p2 (by simp; omega) fun h' x he' hx' => ?_)
    obtain ⟨o, ho, hc⟩ := hx'
    refine wpAny_bind (wpAny_isInstance (T := "StopIteration") (b := true) ⟨o, ho, hc⟩ isSubtype_stop ?_)
    exact wpAny_pure ⟨rfl, I.turned (t' := s.toks) (fun b o hb q => he' b o hb q) f0 f1 f3 f4 f5⟩
  self := fun A i s Q E st h => let ⟨⟨_, he⟩, _⟩ := st; wpAny_pyIter_enum he h
set_option maxHeartbeats 4000000 in
theorem meets_enum1 {v : Value} {o : Obj} {H : Heap → Prop} (B : Begins v o H) :
    Meets (Builtin.«enumerate.__new__» ⟨[.type "enumerate", v], []⟩) (fun _ R s => H s.heap ∧
      R (.ok (.ret (.ref (s.heap.push o).objs.size))) { s with heap := (s.heap.push o).push { cls := .type "enumerate", data := .fields #[.none, .bool false, .ref s.heap.objs.size, rawInt 0, .none, .none] } }) :=
  .of_wp fun prog w A R s h => by
    obtain ⟨hp, g, d, tk, os⟩ := s; obtain ⟨h1, h⟩ := h
    have hsub := sub_enumerate
    have q1 : ∀ {A' : Around} {E : Value → Shared → Prop} {Q : Value → Shared → Prop}, Q (.ref hp.objs.size) ⟨hp.push o, g, d, tk, os⟩ → wpAny (model prog w) A' (pyIter v) Q E ⟨hp, g, d, tk, os⟩ :=
      fun q => B.iter prog w _ _ ⟨hp, g, d, tk, os⟩ _ h1 q
    wp_walk using q1
    refine wpAny_stack_any fun st => wpAny_pure ?_
    split
    · rename_i c _ _ _ _ _
      cases (c == Value.type "enumerate")
      · wp_walk using q1
        exact ⟨_, rfl, h⟩
      · wp_walk using q1
        exact ⟨_, rfl, h⟩
    · wp_walk using q1
      exact ⟨_, rfl, h⟩
theorem enum_begins1 {prog : Program} {w : World} {A : Around} {E : Value → Shared → Prop} {s : Shared} {v : Value} {o : Obj} {H : Heap → Prop} {Q : Value → Shared → Prop} (B : Begins v o H) (h1 : H s.heap)
    (h : ∀ h', IsEnum h' (s.heap.objs.size + 1) s.heap.objs.size 0 .none → h'.get? s.heap.objs.size = some o → h'.objs.size = s.heap.objs.size + 2 →
      (∀ b o, s.heap.get? b = some o → h'.get? b = some o) → Q (.ref (s.heap.objs.size + 1)) { s with heap := h' }) :
    wpAny (model prog w) A (call (.type "enumerate") [v]) Q E s := by
  refine callType_new F.called_enumerate (by decide) (F.typeCall_enumerate_1 _) (F.newCall_enumerate_1 _) (fun obj => F.args_object_init_2 obj _) F.entry_enumerate_new
    (meets_enum1 B) ⟨h1, ?_⟩
  have hz : (s.heap.push o).objs.size = s.heap.objs.size + 1 := Heap.size_push ..
  show _ ∧ _
  rw [hz]
  have he : IsEnum ((s.heap.push o).push { cls := .type "enumerate", data := .fields #[.none, .bool false, .ref s.heap.objs.size, rawInt 0, .none, .none] }) (s.heap.objs.size + 1) s.heap.objs.size 0 .none := by
    have := Heap.get?_push_size (s.heap.push o) (o := { cls := .type "enumerate", data := .fields #[.none, .bool false, .ref s.heap.objs.size, rawInt 0, .none, .none] }) rfl
    rw [hz] at this; exact this
  refine ⟨⟨_, he, rfl⟩, h _ he (Heap.get?_push_of_some _ (Heap.get?_push_size _ B.free)) (by rw [Heap.size_push, hz]) fun b o x => Heap.get?_push_of_some _ (Heap.get?_push_of_some _ x)⟩
def iEnumT (K : PySem.W.Frag) (ta : TA) : TI := fun σ H R => ta σ H fun vs H1 => ∃ a xs, vs = [.ref a] ∧ SqT K H1 a xs ∧ R (IteT K a) H1
theorem pi_enumT {X : Cx} {e : Expr} {ta : TA} {p pos tpos : Pos} {elts : List Expr} {kk : Nat} (hg : Gl X "enumerate") (hm : X.mg "enumerate" = none) (ha : PA X [e] ta) (hs : starEach [e] X.env = [(false, eval e X.env)] := by rfl) :
    PI X (.Tuple elts kk tpos) (.Call (.Name "enumerate" p) [e] [] pos) (iEnumT X.K ta) := by
  refine ⟨fun pins s σ H R I h => ?_⟩
  refine Call_ (ld_blt I hg hm boot_enumerate (PyProof.Rows.callWith_type1 (thn (ha.run pos pins s σ H _ I h) fun us s1 ⟨vs, H1, I1, r1, q1⟩ => ?_) hs rfl))
  obtain ⟨a, xs, ex, hq, q⟩ := q1
  subst ex
  cases r1 with
  | cons r rr =>
    cases rr
    cases r
    obtain ⟨its, rv, p', hz⟩ := I1.tuple hq
    have p2 : s1.heap.IsTuple a its.toArray := p'
    refine enum_begins1 (begins_tuple a its.toArray) p2 fun h' he hit hsz hk => wpAny_pyIter_enum he ?_
    have I2 : Inv X pins σ H1 { s1 with heap := h' } := I1.kept (t' := s1.toks) hk
    refine ⟨s1.heap.objs.size + 1, [s1.heap.objs.size + 1, s1.heap.objs.size], _, _, H1, rfl, I2, turn_enumT a (s1.heap.objs.size + 1) s1.heap.objs.size, ⟨⟨.none, he⟩, ⟨_, hit, rfl, rfl⟩, Nat.succ_ne_self _⟩, fun b hb => ?_, q⟩
    have e' : b = s1.heap.objs.size + 1 ∨ b = s1.heap.objs.size := by simpa using hb
    have hle : s1.heap.objs.size ≤ b := by
      rcases e' with z | z
      · rw [z]; exact Nat.le_add_right _ _
      · rw [z]; exact Nat.le_refl _
    exact I1.fpOk hle (I1.hok.fresh hle)
def enumV : Nat → List Val → List Val
  | _, [] => []
  | k, x :: xs => .tup [.int (k : Nat), x] :: enumV (k + 1) xs
theorem enumV_length : ∀ (k : Nat) (xs : List Val), (enumV k xs).length = xs.length
  | _, [] => rfl
  | k, x :: xs => by rw [enumV, List.length_cons, List.length_cons, enumV_length]
theorem enumV_at : ∀ (k : Nat) (xs : List Val) (i : Nat), (enumV k xs)[i]? = (xs[i]?).map fun x => .tup [.int ((k + i : Nat)), x]
  | _, [], i => by simp [enumV]
  | k, x :: xs, 0 => by simp [enumV]
  | k, x :: xs, i + 1 => by
    rw [enumV, List.getElem?_cons_succ, List.getElem?_cons_succ, enumV_at (k + 1) xs i, show k + 1 + i = k + (i + 1) by omega]
def mEnum (a : Ev → M Val) : Ev → M Src := fun env S => (a env S).bind fun x S1 => match x with
  | .tup xs => .ok (.vals (enumV 0 xs)) S1
  | _ => .bad
section
variable {X : Cx} {E : XK} {o e : Expr} {mo me : Ev → M Val} {p : Pos}
theorem pim_enum {a : Expr} {ma : Ev → M Val} {elts : List Expr} {kk : Nat} {tpos pos : Pos} (hm : X.mg "enumerate" = none) (ha : PEm X E a ma) (hg : Gl X "enumerate" := by rfl)
    (hs : starEach [a] X.env = (false, eval a X.env) :: starEach [] X.env := by rfl) (hs2 : starEach [a] X.env = [(false, eval a X.env)] := by rfl) :
    PIm X E (.Tuple elts kk tpos) (.Call (.Name "enumerate" p) [a] [] pos) (mEnum ma) := by
  obtain ⟨ta, pa, qa⟩ := ha.ex
  refine ⟨_, pi_enumT hg hm (pa_cons pa pa_nil hs) hs2, fun io σ H env S R er sr h => ?_⟩
  refine qa io σ H env S _ er sr (fin_bind h fun x S1 io1 H1 v _ l1 s1 r1 h1 => ?_)
  cases x with
  | tup xs =>
    obtain ⟨q, vs, rfl, hq, k⟩ := r1
    refine ⟨q, vs, rfl, hq, h1 io1 H1 _ Le.refl s1 ⟨fun io' H' S i x l s e => ?_, fun io' H' S l s e => ?_⟩⟩
    · have e : (enumV 0 xs)[i]? = some x := e
      rw [enumV_at] at e
      cases e1 : xs[i]? with
      | none => rw [e1] at e; cases e
      | some x1 =>
        rw [e1] at e
        cases e
        obtain ⟨v1, hv1, rv1⟩ := (VRs.monoW l _ _ k).get e1
        refine ⟨⟨vs, v1, l.tu _ _ hq, hv1⟩, fun y H'' hy => ?_⟩
        obtain ⟨T, a1, rfl, hT, rfl, f1⟩ := hy
        have g1 := f1 vs (l.tu _ _ hq)
        rw [hv1] at g1
        cases g1
        refine ⟨Le.new hT, s.new hT, T, [.int (i : Nat), v1], rfl, .inl (.inl upd_same), .int (i : Nat), [v1], rfl, ?_, v1, [], rfl, VR.mono (Le.new hT) _ _ rv1, rfl⟩
        show V.int _ = V.int _
        rw [Nat.zero_add]
    · refine ⟨vs, l.tu _ _ hq, ?_⟩
      show vs.length ≤ (enumV 0 xs).length
      rw [enumV_length, k.length]
      exact Nat.le_refl _
  | _ => exact h1.elim
/-! ### max of a list of numbers -/
def maxI (n : Int) (ns : List Int) : Int := ns.foldl (fun a b => if a < b then b else a) n
theorem maxI_le : ∀ (ns : List Int) (n : Int), n ≤ maxI n ns ∧ (∀ m ∈ ns, m ≤ maxI n ns) ∧ (maxI n ns = n ∨ maxI n ns ∈ ns)
  | [], n => ⟨Int.le_refl _, fun m h => by simp at h, .inl rfl⟩
  | a :: ns, n => by
    have h := maxI_le ns (if n < a then a else n)
    have e : maxI n (a :: ns) = maxI (if n < a then a else n) ns := rfl
    rw [e]
    obtain ⟨h1, h2, h3⟩ := h
    have hle : n ≤ (if n < a then a else n) ∧ a ≤ (if n < a then a else n) := by split <;> omega
    refine ⟨by omega, fun m hm => ?_, ?_⟩
    · rcases List.mem_cons.mp hm with rfl | hm
      · omega
      · exact h2 m hm
    · rcases h3 with h3 | h3
      · rw [h3]
        split
        · exact .inr (by simp)
        · exact .inl rfl
      · exact .inr (List.mem_cons_of_mem _ h3)
def lMax : List Val → M Val := fun xs S => match asInts xs with
  | some (n :: ns) => .ok (.int (maxI n ns)) S
  | _ => .bad
theorem lim_max (hc : X.calm = true) : LiM X E (.builtin "max") lMax := ⟨_, cr_max hc, fun io H S xs vs a Q s hv k h => by
  cases e : asInts xs with
  | none => simp only [lMax, e] at h; exact h.elim
  | some bs =>
    cases bs with
    | nil => simp only [lMax, e] at h; exact h.elim
    | cons n ns =>
      simp only [lMax, e] at h
      have ev : vs = (n :: ns).map V.int := by rw [asInts_eq e] at k; exact k.ints
      subst ev
      refine ⟨a, n :: ns, rfl, SqL.of hv, by simp, fun m hm hle => ?_⟩
      obtain ⟨h1, h2, h3⟩ := maxI_le ns n
      have em : m = maxI n ns := by
        have q1 : maxI n ns ≤ m := hle _ (by rcases h3 with h3 | h3 <;> simp [h3])
        have q2 : m ≤ maxI n ns := by
          rcases List.mem_cons.mp hm with rfl | hm
          · exact h1
          · exact h2 m hm
        omega
      rw [em]
      exact fin_here h s rfl⟩
/-! ### x *= e -/
def gIMul : Val → Val → M Val
  | .int i, .int j, S => if i.natAbs ≤ lim ∧ j.natAbs ≤ lim then .ok (.int (i * j)) S else .bad
  | _, _, _ => .bad
theorem opm_imul : OpM X E (inplaceOp .Mult) gIMul := by
  refine ⟨_, iop_mul, fun io H S x y v w Q s rx ry h => ?_⟩
  cases x with
  | int i =>
    cases y with
    | int j =>
      cases (show v = .int i from rx)
      cases (show w = .int j from ry)
      simp only [gIMul] at h
      by_cases hl : i.natAbs ≤ lim ∧ j.natAbs ≤ lim
      · rw [if_pos hl] at h
        have hlim : lim = 100000 := rfl
        refine ⟨i, j, rfl, rfl, ?_, fin_here h s rfl⟩
        exact .inl (by omega)
      · rw [if_neg hl] at h
        exact h.elim
    | _ => exact h.elim
  | _ => exact h.elim
/-! ### a, b = x, y -/
def sPar2 (i j : Nat) (m : Ev → M (List Val)) : SM := fun env S => (m env S).bind fun xs S1 => match xs with
  | [x, y] => .ok (.nx, (env.set i (some x)).set j (some y)) S1
  | _ => .bad
def sPar3 (i j l : Nat) (m : Ev → M (List Val)) : SM := fun env S => (m env S).bind fun xs S1 => match xs with
  | [x, y, z] => .ok (.nx, ((env.set i (some x)).set j (some y)).set l (some z)) S1
  | _ => .bad
theorem psm_par2 {i j kt k2 : Nat} {x y : Str} {a b : Expr} {mr : Ev → M (List Val)} {px py pt pt2 pos : Pos} (nd : X.N.Nodup) (ha : PAm X E [a, b] mr) (hij : i ≠ j) (hc : X.calm = true := by rfl) (hi : X.N[i]? = some x := by rfl) (hj : X.N[j]? = some y := by rfl)
    (hx : X.env.scope.names.lookup x = some .local := by rfl) (hy : X.env.scope.names.lookup y = some .local := by rfl)
    (hw : swappedStores [.Tuple [.Name x px, .Name y py] kt pt] (.Tuple [a, b] k2 pt2) X.env = pure (some [x, y]) := by rfl)
    (hs : swapsWithSole [.Tuple [.Name x px, .Name y py] kt pt] (.Tuple [a, b] k2 pt2) pos.line X.env = pure false := by rfl) :
    PSm X E (.Assign [.Tuple [.Name x px, .Name y py] kt pt] (.Tuple [a, b] k2 pt2) pos) (sPar2 i j mr) := by
  obtain ⟨t, pt', qt⟩ := ha.ex
  refine ⟨_, ps_par hc nd hi hj hij hx hy pt' hw hs, fun io σ H env S D er sr h => ?_⟩
  refine qt io σ H env S _ er sr (fis_bind h fun xs S1 io1 H1 vs _ l1 s1 r1 h1 => ?_)
  match xs, r1, h1 with
  | [x, y], r1, h1 =>
    obtain ⟨v, ws, rfl, rx, w, us, rfl, ry, e⟩ := r1
    cases (show us = [] from e)
    exact ⟨v, w, rfl, h1 io1 H1 _ Le.refl s1 (((er.mono l1).set i rx).set j ry)⟩
  | [], _, h1 => exact h1.elim
  | [_], _, h1 => exact h1.elim
  | _ :: _ :: _ :: _, _, h1 => exact h1.elim
theorem psm_par3 {i j l kt k2 : Nat} {x y z : Str} {a b c : Expr} {mr : Ev → M (List Val)} {px py pz pt pt2 pos : Pos} (nd : X.N.Nodup) (ha : PAm X E [a, b, c] mr) (hij : i ≠ j) (hil : i ≠ l) (hjl : j ≠ l) (hc : X.calm = true := by rfl) (hi : X.N[i]? = some x := by rfl) (hj : X.N[j]? = some y := by rfl) (hl : X.N[l]? = some z := by rfl)
    (hx : X.env.scope.names.lookup x = some .local := by rfl) (hy : X.env.scope.names.lookup y = some .local := by rfl) (hz : X.env.scope.names.lookup z = some .local := by rfl)
    (hw : swappedStores [.Tuple [.Name x px, .Name y py, .Name z pz] kt pt] (.Tuple [a, b, c] k2 pt2) X.env = pure (some [x, y, z]) := by rfl)
    (hs : swapsWithSole [.Tuple [.Name x px, .Name y py, .Name z pz] kt pt] (.Tuple [a, b, c] k2 pt2) pos.line X.env = pure false := by rfl) :
    PSm X E (.Assign [.Tuple [.Name x px, .Name y py, .Name z pz] kt pt] (.Tuple [a, b, c] k2 pt2) pos) (sPar3 i j l mr) := by
  obtain ⟨t, pt', qt⟩ := ha.ex
  refine ⟨_, ps_par3 hc nd hi hj hl hij hil hjl hx hy hz pt' hw hs, fun io σ H env S D er sr h => ?_⟩
  refine qt io σ H env S _ er sr (fis_bind h fun xs S1 io1 H1 vs _ l1 s1 r1 h1 => ?_)
  match xs, r1, h1 with
  | [x, y, z], r1, h1 =>
    obtain ⟨v, ws, rfl, rx, w, us, rfl, ry, u, ts, rfl, rz, e⟩ := r1
    cases (show ts = [] from e)
    exact ⟨v, w, u, rfl, h1 io1 H1 _ Le.refl s1 ((((er.mono l1).set i rx).set j ry).set l rz)⟩
  | [], _, h1 => exact h1.elim
  | [_], _, h1 => exact h1.elim
  | [_, _], _, h1 => exact h1.elim
  | _ :: _ :: _ :: _ :: _, _, h1 => exact h1.elim
end
end Mx

set_option linter.all false
set_option maxRecDepth 100000
set_option maxHeartbeats 4000000
namespace Mx
open PySem PySem.Spec PyProof.Rows L2
/-! ### < of alike data -/
def rLtD (K : PySem.W.Frag) : R2 := fun x y H Q => ∃ d e, Dp K H x d ∧ Dp K H y e ∧ PySem.W.alike d e = true ∧ d ≠ .none ∧ min d.depth e.depth ≤ 64 ∧ Q (.bl (PySem.W.dataLt d e)) H
theorem op_ltD {X : Cx} (hu : X.A.units + 64 < cLine) : OpR X (compareOp .Lt) (rLtD X.K) := by
  intro pins s σ H x y v u Q I rx ry h
  obtain ⟨d, e, hd, he, al, hn, hz, q⟩ := h
  obtain ⟨as, r1⟩ := Dp.reads I d x v hd rx
  obtain ⟨bs, r2⟩ := Dp.reads I e y u he ry
  exact PySem.W.lt_data r1 r2 al hn (by omega) ⟨.bl _, H, I, rfl, q⟩
def notNone : PyData → Bool
  | .none => false
  | _ => true
theorem notNone_ne {d : PyData} (h : notNone d = true) : d ≠ .none := fun e => by subst e; cases h
/-- x < y, data that are alike -/
def gLtD (x y : Val) (S : Sto) : Out Bool := match datE x S, datE y S with
  | some d, some e => if PySem.W.alike d e = true ∧ notNone d = true ∧ min d.depth e.depth ≤ 64 then .ok (PySem.W.dataLt d e) S else .bad
  | _, _ => .bad
theorem tsm_ltD {X : Cx} {E : XK} (hu : X.A.units + 64 < cLine) : TsM X E (compareOp .Lt) gLtD := by
  refine ⟨_, op_ltD hu, fun io H S x y v u Q s rx ry h => ?_⟩
  unfold gLtD at h
  cases e1 : datE x S with
  | none => simp only [e1] at h; exact h.elim
  | some d =>
    cases e2 : datE y S with
    | none => simp only [e1, e2] at h; exact h.elim
    | some e =>
      simp only [e1, e2] at h
      by_cases hz : PySem.W.alike d e = true ∧ notNone d = true ∧ min d.depth e.depth ≤ 64
      · rw [if_pos hz] at h
        exact ⟨d, e, (viewE.dp (B := H) s rx e1).1, (viewE.dp (B := H) s ry e2).1, hz.1, notNone_ne hz.2.1, hz.2.2, _, rfl, fin_here h s rfl⟩
      · rw [if_neg hz] at h
        exact h.elim
/-! ### zip of three tuples -/
def ItzT3 (K : PySem.W.Frag) (a b c : Addr) : It :=
  ⟨fun i H => ∃ (xs ys us : List V) (x y u : V), SqT K H a xs ∧ SqT K H b ys ∧ SqT K H c us ∧ xs[i]? = some x ∧ ys[i]? = some y ∧ us[i]? = some u,
    fun i H v H' => ∃ T x y u, v = .ref T ∧ H T = none ∧ H' = upd H T (.tup [x, y, u]) ∧ (∀ xs, SqT K H a xs → xs[i]? = some x) ∧ (∀ ys, SqT K H b ys → ys[i]? = some y) ∧ ∀ us, SqT K H c us → us[i]? = some u,
    fun i H => ∃ xs ys us : List V, SqT K H a xs ∧ SqT K H b ys ∧ SqT K H c us ∧ i ≤ xs.length ∧ i ≤ ys.length ∧ i ≤ us.length ∧ (i = xs.length ∨ i = ys.length ∨ i = us.length)⟩
theorem turn_zipT3 {P : Program} {w : World} {K : PySem.W.Frag} {elts : List Expr} {kk : Nat} {tpos : Pos} {a b c z TI TO i1 i2 i3 : Addr} (D : ZipSep3 z TI TO i1 i2 i3 [i1, a] [i2, b] [i3, c]) (ha : a ≠ i1) (hb : b ≠ i2) (hc0 : c ≠ i3) :
    Turn P w K (.Tuple elts kk tpos) (ItzT3 K a b c) [z, TI, TO, i1, i2, i3] z (fun i h => IsZip h z TI TO .none ∧ IsTupOf3 h TI (.ref i1) (.ref i2) (.ref i3) ∧ (∃ x y u, IsTupOf3 h TO x y u) ∧ h.IsTupleIter i1 a i ∧ h.IsTupleIter i2 b i ∧ h.IsTupleIter i3 c i) where
  mem := by simp
  obj := fun i h st c hc => by
    obtain ⟨hz, hTI, ⟨x, y, u, hTO⟩, ⟨o1, e1, _, d1⟩, ⟨o2, e2, _, d2⟩, ⟨o3, e3, _, d3⟩⟩ := st
    have e' : c = z ∨ c = TI ∨ c = TO ∨ c = i1 ∨ c = i2 ∨ c = i3 := by simpa using hc
    rcases e' with q | q | q | q | q | q
    · rw [q]; exact ⟨_, hz, fun v q => nomatch q⟩
    · rw [q]; exact ⟨_, hTI, fun v q => nomatch q⟩
    · rw [q]; exact ⟨_, hTO, fun v q => nomatch q⟩
    · rw [q]; exact ⟨o1, e1, fun v q => by rw [d1] at q; cases q⟩
    · rw [q]; exact ⟨o2, e2, fun v q => by rw [d2] at q; cases q⟩
    · rw [q]; exact ⟨o3, e3, fun v q => by rw [d3] at q; cases q⟩
  keep := fun i h h' st k => by
    obtain ⟨hz, hTI, ⟨x, y, u, hTO⟩, h1, h2, h3⟩ := st
    exact ⟨k z (by simp) _ hz, k TI (by simp) _ hTI, ⟨x, y, u, k TO (by simp) _ hTO⟩, h1.at fun o q => k i1 (by simp) o q, h2.at fun o q => k i2 (by simp) o q, h3.at fun o q => k i3 (by simp) o q⟩
  item := by
    intro X hP hw hK hc i pins s σ H E I hf st hg
    subst hP hw hK
    obtain ⟨hz, hTI, ⟨x0, y0, u0, hTO⟩, h1, h2, h3⟩ := st
    obtain ⟨xs, ys, us, x, y, u, hqx, hqy, hqu, hx, hy, hu⟩ := hg
    obtain ⟨its, rv, p, _⟩ := I.tuple hqx
    obtain ⟨its2, rv2, p2, _⟩ := I.tuple hqy
    obtain ⟨its3, rv3, p3, _⟩ := I.tuple hqu
    have p : s.heap.IsTuple a its.toArray := p
    have p2 : s.heap.IsTuple b its2.toArray := p2
    have p3 : s.heap.IsTuple c its3.toArray := p3
    obtain ⟨w1, hw1, rw1⟩ := rv.get hx
    obtain ⟨w2, hw2, rw2⟩ := rv2.get hy
    obtain ⟨w3, hw3, rw3⟩ := rv3.get hu
    have hzl : z < s.heap.objs.size := Heap.lt_size hz
    have hh : X.A.in1.handled = none := I.ok.hd hc
    have D1 : Draws X.prog X.w X.A.in1 i1 [i1, a] its.toArray.size (fun i v => its.toArray[i]? = some v) (fun i h => h.IsTupleIter i1 a i ∧ h.IsTuple a its.toArray) := Draws.tuple hh i1 a ha its.toArray
    have D2 : Draws X.prog X.w X.A.in1 i2 [i2, b] its2.toArray.size (fun i v => its2.toArray[i]? = some v) (fun i h => h.IsTupleIter i2 b i ∧ h.IsTuple b its2.toArray) := Draws.tuple hh i2 b hb its2.toArray
    have D3 : Draws X.prog X.w X.A.in1 i3 [i3, c] its3.toArray.size (fun i v => its3.toArray[i]? = some v) (fun i h => h.IsTupleIter i3 c i ∧ h.IsTuple c its3.toArray) := Draws.tuple hh i3 c hc0 its3.toArray
    have g1 : i < its.toArray.size := by rw [List.size_toArray]; exact (List.getElem?_eq_some_iff.mp hw1).1
    have g2 : i < its2.toArray.size := by rw [List.size_toArray]; exact (List.getElem?_eq_some_iff.mp hw2).1
    have g3 : i < its3.toArray.size := by rw [List.size_toArray]; exact (List.getElem?_eq_some_iff.mp hw3).1
    refine wpAny_pyNext_zipD3_item D D1 D2 D3 hz hTI hTO ⟨h1, p⟩ ⟨h2, p2⟩ ⟨h3, p3⟩ g1 g2 g3 fun v1 v2 v3 h' tk q1 q2 q3 z' TO' st1 st2 st3 hT hsz hk => ?_
    have ex1 : v1 = w1 := by rw [List.getElem?_toArray, hw1] at q1; exact (Option.some.inj q1).symm
    have ex2 : v2 = w2 := by rw [List.getElem?_toArray, hw2] at q2; exact (Option.some.inj q2).symm
    have ex3 : v3 = w3 := by rw [List.getElem?_toArray, hw3] at q3; exact (Option.some.inj q3).symm
    subst ex1 ex2 ex3
    refine ⟨_, rfl, wpAny_letOwnedTupleGo_zip (s := { s with heap := h', toks := tk }) z' fun h'' z'' sb => ?_⟩
    have hT2 : h''.get? s.heap.objs.size = some { cls := .type "tuple", data := .seq #[v1, v2, v3] } := (sb.2 _ (Nat.ne_of_gt hzl)).trans hT
    have new : ObjOk X.prog X.w (upd H s.heap.objs.size (.tup [x, y, u])) h'' s.heap.objs.size (.tup [x, y, u]) :=
      ⟨by show 3 ≤ sizeLine; decide, [v1, v2, v3], .cons rw1 (.cons rw2 (.cons rw3 .nil)), ⟨_, hT2, rfl, _, rfl⟩⟩
    have I1 : Inv X pins σ (upd H s.heap.objs.size (.tup [x, y, u])) { s with heap := h'', toks := tk } :=
      I.turnedNew (t' := tk) (ch := [z, TI, TO, i1, i2, i3]) (fun c o hb q => (sb.2 c (fun q' => hb (by simp [q']))).trans (hk c o (fun q' => hb (by simp [q'])) (fun q' => hb (by simp [q'])) (fun q' => hb (by simp [q'])) (fun q' => hb (by simp [q'])) (fun q' => hb (by simp [q'])) q)) hf (Nat.le_refl _) new
    have n1 : i1 ≠ z := fun e => D.zi1 e.symm
    have n2 : i2 ≠ z := fun e => D.zi2 e.symm
    have n3 : i3 ≠ z := fun e => D.zi3 e.symm
    refine ⟨.ref s.heap.objs.size, _, I1, rfl, ⟨_, x, y, u, rfl, I.hok.fresh (Nat.le_refl _), rfl, fun l hl => by rw [I.tuple_inj hl hqx]; exact hx, fun l hl => by rw [I.tuple_inj hl hqy]; exact hy, fun l hl => by rw [I.tuple_inj hl hqu]; exact hu⟩, ⟨z'', ?_, ⟨v1, v2, v3, ?_⟩, ?_, ?_, ?_⟩, fun c hcm => ?_⟩
    · exact (sb.2 _ D.TIz).trans (hk _ _ D.TIz D.TITO D.TIi1 D.TIi2 D.TIi3 hTI)
    · exact (sb.2 _ D.TOz).trans TO'
    · exact st1.1.at fun o q => (sb.2 _ n1).trans q
    · exact st2.1.at fun o q => (sb.2 _ n2).trans q
    · exact st3.1.at fun o q => (sb.2 _ n3).trans q
    · have hlt : c < s.heap.objs.size := by
        have e' : c = z ∨ c = TI ∨ c = TO ∨ c = i1 ∨ c = i2 ∨ c = i3 := by simpa using hcm
        rcases e' with q | q | q | q | q | q
        · rw [q]; exact hzl
        · rw [q]; exact Heap.lt_size hTI
        · rw [q]; exact Heap.lt_size hTO
        · rw [q]; obtain ⟨_, e1, _⟩ := h1; exact Heap.lt_size e1
        · rw [q]; obtain ⟨_, e2, _⟩ := h2; exact Heap.lt_size e2
        · rw [q]; obtain ⟨_, e3, _⟩ := h3; exact Heap.lt_size e3
      rw [upd_ne (Nat.ne_of_lt hlt)]
      exact (hf c hcm).1
  done := by
    intro X hP hw hK hc i pins s σ H E I hf st hg
    subst hP hw hK
    obtain ⟨hz, hTI, ⟨x0, y0, u0, hTO⟩, h1, h2, h3⟩ := st
    obtain ⟨xs, ys, us, hqx, hqy, hqu, le1, le2, le3, hend⟩ := hg
    obtain ⟨its, rv, p, _⟩ := I.tuple hqx
    obtain ⟨its2, rv2, p2, _⟩ := I.tuple hqy
    obtain ⟨its3, rv3, p3, _⟩ := I.tuple hqu
    have p : s.heap.IsTuple a its.toArray := p
    have p2 : s.heap.IsTuple b its2.toArray := p2
    have p3 : s.heap.IsTuple c its3.toArray := p3
    have l1 := rv.length
    have l2 := rv2.length
    have l3 := rv3.length
    have hh : X.A.in1.handled = none := I.ok.hd hc
    have D1 : Draws X.prog X.w X.A.in1 i1 [i1, a] its.toArray.size (fun i v => its.toArray[i]? = some v) (fun i h => h.IsTupleIter i1 a i ∧ h.IsTuple a its.toArray) := Draws.tuple hh i1 a ha its.toArray
    have D2 : Draws X.prog X.w X.A.in1 i2 [i2, b] its2.toArray.size (fun i v => its2.toArray[i]? = some v) (fun i h => h.IsTupleIter i2 b i ∧ h.IsTuple b its2.toArray) := Draws.tuple hh i2 b hb its2.toArray
    have D3 : Draws X.prog X.w X.A.in1 i3 [i3, c] its3.toArray.size (fun i v => its3.toArray[i]? = some v) (fun i h => h.IsTupleIter i3 c i ∧ h.IsTuple c its3.toArray) := Draws.tuple hh i3 c hc0 its3.toArray
    refine wpAny_pyNext_zipD3_end D D1 D2 D3 hz hTI hTO ⟨h1, p⟩ ⟨h2, p2⟩ ⟨h3, p3⟩ (by simp; omega) (by simp; omega) (by simp; omega) (by simp; omega) fun h' tk hk => ?_
    exact ⟨rfl, I.turnedL (t' := tk) (ch := [z, TI, TO, i1, i2, i3]) (fun c o hb q =>
      hk c o (fun q' => hb (by simp [q'])) (fun q' => hb (by simp [q'])) (fun q' => hb (by simp [q'])) (fun q' => hb (by simp [q'])) (fun q' => hb (by simp [q'])) q) hf⟩
  self := fun A i s Q E st h => wpAny_pyIter_zip st.1 h
theorem nm2 {x y z : Nat} (h1 : x ≠ y) (h2 : x ≠ z) : x ∉ [y, z] := by simp [h1, h2]
theorem sep3 (N a b c : Nat) (la : a < N) (lb : b < N) (lc : c < N) : ZipSep3 (N + 5) (N + 3) (N + 4) N (N + 1) (N + 2) [N, a] [N + 1, b] [N + 2, c] ∧ a ≠ N ∧ b ≠ N + 1 ∧ c ≠ N + 2 := by
  refine ⟨?_, by omega, by omega, by omega⟩
  exact { TIz := (by omega : (N + 3 : Nat) ≠ N + 5), TOz := (by omega : (N + 4 : Nat) ≠ N + 5), TITO := (by omega : (N + 3 : Nat) ≠ N + 4), TIi1 := (by omega : (N + 3 : Nat) ≠ N), mem1 := (List.mem_cons_self ..), zf1 := (nm2 (by omega : (N + 5 : Nat) ≠ N) (by omega : (N + 5 : Nat) ≠ a)), Tf1 := (nm2 (by omega : (N + 4 : Nat) ≠ N) (by omega : (N + 4 : Nat) ≠ a)), TIi2 := (by omega : (N + 3 : Nat) ≠ N + 1), mem2 := (List.mem_cons_self ..), zf2 := (nm2 (by omega : (N + 5 : Nat) ≠ N + 1) (by omega : (N + 5 : Nat) ≠ b)), Tf2 := (nm2 (by omega : (N + 4 : Nat) ≠ N + 1) (by omega : (N + 4 : Nat) ≠ b)), TIi3 := (by omega : (N + 3 : Nat) ≠ N + 2), mem3 := (List.mem_cons_self ..), zf3 := (nm2 (by omega : (N + 5 : Nat) ≠ N + 2) (by omega : (N + 5 : Nat) ≠ c)), Tf3 := (nm2 (by omega : (N + 4 : Nat) ≠ N + 2) (by omega : (N + 4 : Nat) ≠ c)), sep1_2 := (nm2 (by omega : (N : Nat) ≠ N + 1) (by omega : (N : Nat) ≠ b)), sep1_3 := (nm2 (by omega : (N : Nat) ≠ N + 2) (by omega : (N : Nat) ≠ c)), sep2_1 := (nm2 (by omega : (N + 1 : Nat) ≠ N) (by omega : (N + 1 : Nat) ≠ a)), sep2_3 := (nm2 (by omega : (N + 1 : Nat) ≠ N + 2) (by omega : (N + 1 : Nat) ≠ c)), sep3_1 := (nm2 (by omega : (N + 2 : Nat) ≠ N) (by omega : (N + 2 : Nat) ≠ a)), sep3_2 := (nm2 (by omega : (N + 2 : Nat) ≠ N + 1) (by omega : (N + 2 : Nat) ≠ b)) }
theorem six_le (N d : Nat) (h : d = N + 5 ∨ d = N + 3 ∨ d = N + 4 ∨ d = N ∨ d = N + 1 ∨ d = N + 2) : N ≤ d := by omega
def iZip3 (K : PySem.W.Frag) (ta : TA) : TI := fun σ H R => ta σ H fun vs H1 => ∃ a b c xs ys us, vs = [.ref a, .ref b, .ref c] ∧ SqT K H1 a xs ∧ SqT K H1 b ys ∧ SqT K H1 c us ∧ R (ItzT3 K a b c) H1
theorem pi_zip3 {X : Cx} {e e2 e3 : Expr} {ta : TA} {p pos tpos : Pos} {elts : List Expr} {kk : Nat} (hg : Gl X "zip") (hm : X.mg "zip" = none) (ha : PA X [e, e2, e3] ta)
    (hs : starEach [e, e2, e3] X.env = (false, eval e X.env) :: starEach [e2, e3] X.env := by rfl) (hpl : (backTo pos (starEach [e2, e3] X.env)).any (·.1) = false := by rfl) :
    PI X (.Tuple elts kk tpos) (.Call (.Name "zip" p) [e, e2, e3] [] pos) (iZip3 X.K ta) := by
  refine ⟨fun pins s σ H R I h => ?_⟩
  refine Call_ (ld_blt I hg hm PyProof.Rows.boot_zip (PyProof.Rows.callWith_type1 (thn (ha.run pos pins s σ H _ I h) fun us s1 ⟨vs, H1, I1, r1, q1⟩ => ?_) hs hpl))
  obtain ⟨a, b, c, xs, ys, zs, ex, hqx, hqy, hqz, q⟩ := q1
  subst ex
  cases r1 with
  | cons r rr =>
    cases rr with
    | cons r' rr =>
      cases rr with
      | cons r'' rr =>
        cases rr
        cases r
        cases r'
        cases r''
        obtain ⟨its, rv, p1, _⟩ := I1.tuple hqx
        obtain ⟨its2, rv2, p2, _⟩ := I1.tuple hqy
        obtain ⟨its3, rv3, p3, _⟩ := I1.tuple hqz
        have p1 : s1.heap.IsTuple a its.toArray := p1
        have p2 : s1.heap.IsTuple b its2.toArray := p2
        have p3 : s1.heap.IsTuple c its3.toArray := p3
        have la : a < s1.heap.objs.size := by obtain ⟨_, e, _⟩ := id p1; exact Heap.lt_size e
        have lb : b < s1.heap.objs.size := by obtain ⟨_, e, _⟩ := id p2; exact Heap.lt_size e
        have lc : c < s1.heap.objs.size := by obtain ⟨_, e, _⟩ := id p3; exact Heap.lt_size e
        refine zip_begins3 (begins_tuple a its.toArray) (begins_tuple b its2.toArray) (begins_tuple c its3.toArray) p1 p2 p3 fun h' hz hTI hTO h1 h2 h3 hsz hk => wpAny_pyIter_zip hz ?_
        have I2 : Inv X pins σ H1 { s1 with heap := h' } := I1.kept (t' := s1.toks) hk
        obtain ⟨sep, na, nb, nc⟩ := sep3 s1.heap.objs.size a b c la lb lc
        refine ⟨s1.heap.objs.size + 5, [s1.heap.objs.size + 5, s1.heap.objs.size + 3, s1.heap.objs.size + 4, s1.heap.objs.size, s1.heap.objs.size + 1, s1.heap.objs.size + 2], _, _, H1, rfl, I2, turn_zipT3 sep na nb nc, ⟨hz, hTI, ⟨_, _, _, hTO⟩, ⟨_, h1, rfl, rfl⟩, ⟨_, h2, rfl, rfl⟩, ⟨_, h3, rfl, rfl⟩⟩, fun d hcm => ?_, q⟩
        have e' : d = s1.heap.objs.size + 5 ∨ d = s1.heap.objs.size + 3 ∨ d = s1.heap.objs.size + 4 ∨ d = s1.heap.objs.size ∨ d = s1.heap.objs.size + 1 ∨ d = s1.heap.objs.size + 2 := by simpa using hcm
        have hle : s1.heap.objs.size ≤ d := six_le _ d e'
        exact I1.fpOk hle (I1.hok.fresh hle)
def zipV3 : List Val → List Val → List Val → List Val
  | x :: xs, y :: ys, u :: us => .tup [x, y, u] :: zipV3 xs ys us
  | _, _, _ => []
theorem zipV3_len : ∀ xs ys us : List Val, (zipV3 xs ys us).length = min (min xs.length ys.length) us.length
  | [], ys, us => by simp [zipV3]
  | x :: xs, [], us => by simp [zipV3]
  | x :: xs, y :: ys, [] => by simp [zipV3]
  | x :: xs, y :: ys, u :: us => by rw [zipV3, List.length_cons, zipV3_len, List.length_cons, List.length_cons, List.length_cons]; omega
theorem zipV3_at : ∀ (xs ys us : List Val) (i : Nat) (t : Val), (zipV3 xs ys us)[i]? = some t → ∃ x y u, xs[i]? = some x ∧ ys[i]? = some y ∧ us[i]? = some u ∧ t = .tup [x, y, u]
  | [], ys, us, i, t, e => by simp [zipV3] at e
  | x :: xs, [], us, i, t, e => by simp [zipV3] at e
  | x :: xs, y :: ys, [], i, t, e => by simp [zipV3] at e
  | x :: xs, y :: ys, u :: us, 0, t, e => by
    rw [zipV3, List.getElem?_cons_zero] at e
    cases e
    exact ⟨x, y, u, rfl, rfl, rfl, rfl⟩
  | x :: xs, y :: ys, u :: us, i + 1, t, e => by
    rw [zipV3, List.getElem?_cons_succ] at e
    simpa using zipV3_at xs ys us i t e
def mZip3 (a b c : Ev → M Val) : Ev → M Src := fun env S => (a env S).bind fun x S1 => (b env S1).bind fun y S2 => (c env S2).bind fun u S3 => match x, y, u with
  | .tup xs, .tup ys, .tup us => .ok (.vals (zipV3 xs ys us)) S3
  | _, _, _ => .bad
section
variable {X : Cx} {E : XK} {p : Pos}
theorem pim_zip3 {a b c : Expr} {ma mb mc : Ev → M Val} {elts : List Expr} {kk : Nat} {tpos pos : Pos} (hm : X.mg "zip" = none) (ha : PEm X E a ma) (hb : PEm X E b mb) (hc : PEm X E c mc) (hg : Gl X "zip" := by rfl)
    (hs3 : starEach [c] X.env = (false, eval c X.env) :: starEach [] X.env := by rfl) (hs2 : starEach [b, c] X.env = (false, eval b X.env) :: starEach [c] X.env := by rfl)
    (hs : starEach [a, b, c] X.env = (false, eval a X.env) :: starEach [b, c] X.env := by rfl) (hpl : (backTo pos (starEach [b, c] X.env)).any (·.1) = false := by rfl) :
    PIm X E (.Tuple elts kk tpos) (.Call (.Name "zip" p) [a, b, c] [] pos) (mZip3 ma mb mc) := by
  obtain ⟨ta, pa, qa⟩ := ha.ex
  obtain ⟨tb, pb, qb⟩ := hb.ex
  obtain ⟨tc, pc, qc⟩ := hc.ex
  refine ⟨_, pi_zip3 hg hm (pa_cons pa (pa_cons pb (pa_cons pc pa_nil hs3) hs2) hs) hs hpl, fun io σ H env S R er sr h => ?_⟩
  refine qa io σ H env S _ er sr (fin_bind h fun x S1 io1 H1 v _ l1 s1 r1 h1 => ?_)
  refine qb io1 σ H1 env S1 _ (er.mono l1) s1 (fin_bind h1 fun y S2 io2 H2 w _ l2 s2 r2 h2 => ?_)
  refine qc io2 σ H2 env S2 _ ((er.mono l1).mono l2) s2 (fin_bind h2 fun u S3 io3 H3 w' _ l3 s3 r3 h3 => ?_)
  cases x with
  | tup xs =>
    cases y with
    | tup ys =>
      cases u with
      | tup us =>
        obtain ⟨q, vs, rfl, hq, k⟩ := VR.mono l3 _ _ (VR.mono l2 _ _ r1)
        obtain ⟨q2, ws, rfl, hq2, k2⟩ := VR.mono l3 _ _ r2
        obtain ⟨q3, zs, rfl, hq3, k3⟩ := r3
        refine ⟨q, q2, q3, vs, ws, zs, rfl, hq, hq2, hq3, h3 io3 H3 _ Le.refl s3 ⟨fun io' H' S i x l s e => ?_, fun io' H' S l s e => ?_⟩⟩
        · obtain ⟨x1, y1, u1, e1, e2, e3, rfl⟩ := zipV3_at xs ys us i x e
          obtain ⟨v1, hv1, rv1⟩ := (VRs.monoW l _ _ k).get e1
          obtain ⟨w1, hw1, rw1⟩ := (VRs.monoW l _ _ k2).get e2
          obtain ⟨z1, hz1, rz1⟩ := (VRs.monoW l _ _ k3).get e3
          refine ⟨⟨vs, ws, zs, v1, w1, z1, l.tu _ _ hq, l.tu _ _ hq2, l.tu _ _ hq3, hv1, hw1, hz1⟩, fun y H'' hy => ?_⟩
          obtain ⟨T, a1, b1, c1, rfl, hT, rfl, f1, f2, f3⟩ := hy
          have g1 := f1 vs (l.tu _ _ hq)
          have g2 := f2 ws (l.tu _ _ hq2)
          have g3 := f3 zs (l.tu _ _ hq3)
          rw [hv1] at g1
          rw [hw1] at g2
          rw [hz1] at g3
          cases g1
          cases g2
          cases g3
          exact ⟨Le.new hT, s.new hT, T, [v1, w1, z1], rfl, .inl (.inl upd_same), v1, [w1, z1], rfl, VR.mono (Le.new hT) _ _ rv1, w1, [z1], rfl, VR.mono (Le.new hT) _ _ rw1, z1, [], rfl, VR.mono (Le.new hT) _ _ rz1, rfl⟩
        · refine ⟨vs, ws, zs, l.tu _ _ hq, l.tu _ _ hq2, l.tu _ _ hq3, ?_⟩
          have e1 := k.length
          have e2 := k2.length
          have e3 := k3.length
          have e4 := zipV3_len xs ys us
          show (zipV3 xs ys us).length ≤ vs.length ∧ (zipV3 xs ys us).length ≤ ws.length ∧ (zipV3 xs ys us).length ≤ zs.length ∧ _
          have e5 : Src.size (.vals (zipV3 xs ys us)) = (zipV3 xs ys us).length := rfl
          rw [e4]
          omega
      | _ => exact h3.elim
    | _ => exact h3.elim
  | _ => exact h3.elim
end
end Mx

set_option linter.all false
set_option maxRecDepth 100000
set_option maxHeartbeats 4000000
namespace Mx
open PySem PySem.Spec PyProof.Rows L2
/-! ### max of a tuple of numbers -/
theorem dp_ints {K : PySem.W.Frag} {H : Hp} : ∀ ns : List Int, DpAll K H (ns.map V.int) (ns.map PyData.int)
  | [] => .nil
  | n :: ns => .cons (.int n) (dp_ints ns)
theorem depth_ints : ∀ ns : List Int, PyData.depthAll (ns.map PyData.int) ≤ 5
  | [] => by simp [PyData.depthAll]
  | n :: ns => by
    have := depth_ints ns
    rw [List.map_cons, PyData.depthAll]
    have e : PyData.depth (.int n) ≤ 5 := by simp [PyData.depth]
    omega
theorem al_ints (n : Int) (ns : List Int) : PySem.W.AlikeAll (PyData.int n :: ns.map PyData.int) := by
  have e : PyData.int n :: ns.map PyData.int = (n :: ns).map PyData.int := rfl
  rw [e]
  refine ⟨fun x hx y hy => ?_, fun x hx => ?_⟩
  · obtain ⟨i, _, rfl⟩ := List.mem_map.mp hx
    obtain ⟨j, _, rfl⟩ := List.mem_map.mp hy
    simp [PySem.W.alike]
  · obtain ⟨i, _, rfl⟩ := List.mem_map.mp hx
    exact fun h => nomatch h
def rMaxT (K : PySem.W.Frag) : List V → Hp → VK → Prop := fun vs H Q => ∃ (a : Addr) (n : Int) (ns : List Int), vs = [V.ref a] ∧ SqT K H a ((n :: ns).map V.int) ∧ Q (.int (ns.foldl max n)) H
theorem cr_maxT {X : Cx} (hc : X.calm = true) (hu : X.A.units + 64 < cLine) : CallR X (.builtin "max") (rMaxT X.K) := by
  intro pins s σ H vs us Q I r h
  obtain ⟨a, n, ns, rfl, hs, q⟩ := h
  obtain ⟨its, rv, p, _⟩ := I.tuple hs
  obtain ⟨as, hr⟩ := Dp.readsAll I ((n :: ns).map PyData.int) _ its (dp_ints (n :: ns)) rv
  rw [Vals.ref1 r]
  have hd := depth_ints (n :: ns)
  refine PySem.W.max_tuple_data (x := .int n) (xs := ns.map PyData.int) (I.ok.hd hc) (show s.heap.IsTuple a its.toArray from p) hr (al_ints n ns) (by
    have : PyData.depthAll (PyData.int n :: ns.map PyData.int) ≤ 5 := hd
    show X.A.units + 1 + _ < _
    omega) fun i v h' tk bs hi rd hk => ?_
  rw [PySem.W.maxD_ints] at rd
  cases rd with
  | int _ t => exact ⟨.int _, H, I.kept hk, ⟨t, rfl⟩, q⟩
def gMaxT : Val → M Val
  | .tup xs, S => (match asInts xs with | some (n :: ns) => .ok (.int (ns.foldl max n)) S | _ => .bad)
  | _, _ => .bad
theorem unm_maxT {X : Cx} {E : XK} (hc : X.calm = true) (hu : X.A.units + 64 < cLine) : UnM X E (.builtin "max") gMaxT := by
  refine ⟨_, cr_maxT hc hu, fun io H S x v Q s r h => ?_⟩
  cases x with
  | tup xs =>
    obtain ⟨q, vs, rfl, hq, k⟩ := r
    simp only [gMaxT] at h
    cases e : asInts xs with
    | none => simp only [e] at h; exact h.elim
    | some bs =>
      cases bs with
      | nil => simp only [e] at h; exact h.elim
      | cons n ns =>
        simp only [e] at h
        have ev : vs = (n :: ns).map V.int := by rw [asInts_eq e] at k; exact k.ints
        subst ev
        exact ⟨q, n, ns, rfl, hq, fin_here h s rfl⟩
  | _ => exact h.elim
end Mx

set_option linter.all false
set_option maxRecDepth 100000
set_option maxHeartbeats 4000000
namespace Mx
open PySem PySem.Spec PyProof.Rows L2
/-! ### instances of the program's own classes -/
def putV (f : Str) (v : Val) : List (Str × Val) → List (Str × Val)
  | [] => [(f, v)]
  | (g, x) :: r => if g = f then (g, v) :: r else (g, x) :: putV f v r
section
variable {K : PySem.W.Frag} {io : List Addr} {H : Hp} {S : Sto}
theorem ins_look {f : Str} {x : Val} : ∀ {fs : List (Str × Val)} {vs : List V}, VRs K io H (fs.map (·.2)) vs → fs.lookup f = some x → ∃ v, ((fs.map (·.1)).zip vs).lookup f = some v ∧ VR K io H x v
  | [], _, _, e => by cases e
  | (g, y) :: r, _, ⟨v, ws, ev, h, k⟩, e => by
    subst ev
    rw [List.map_cons, List.zip_cons_cons]
    rw [List.lookup_cons] at e ⊢
    cases hb : f == g with
    | true => rw [hb] at e; cases e; exact ⟨v, rfl, h⟩
    | false => rw [hb] at e; exact ins_look k e
theorem ins_put {f : Str} {x : Val} {v : V} (hx : VR K io H x v) : ∀ {fs : List (Str × Val)} {vs : List V}, VRs K io H (fs.map (·.2)) vs → ∃ ws, putF f v ((fs.map (·.1)).zip vs) = ((putV f x fs).map (·.1)).zip ws ∧ VRs K io H ((putV f x fs).map (·.2)) ws
  | [], _, h => by cases h; exact ⟨[v], rfl, v, [], rfl, hx, rfl⟩
  | (g, y) :: r, _, ⟨u, ws, ev, h, k⟩ => by
    subst ev
    rw [List.map_cons, List.zip_cons_cons]
    by_cases hg : g = f
    · refine ⟨v :: ws, ?_, ?_⟩
      · rw [putF, putV, if_pos hg, if_pos hg]; rfl
      · rw [putV, if_pos hg]; exact ⟨v, ws, rfl, hx, k⟩
    · obtain ⟨zs, e, k2⟩ := ins_put hx k
      refine ⟨u :: zs, ?_, ?_⟩
      · rw [putF, putV, if_neg hg, if_neg hg, e]; rfl
      · rw [putV, if_neg hg]; exact ⟨u, zs, rfl, h, k2⟩
theorem rd_mutI {p a C dx : Addr} {xs : List (Str × V)} {o2 : HO} {zs : List V} (hp : H p = some (.ins C dx xs)) (h : Rd H a (.tup zs)) : Rd (upd H p o2) a (.tup zs) := by
  rcases h with h | ⟨x, h⟩
  · exact .inl (by rw [upd_ne (ne_of h hp (by intro z; cases z))]; exact h)
  · exact .inr ⟨x, by rw [upd_ne (ne_of h hp (by intro z; cases z))]; exact h⟩
theorem fz_mutI {p a C dx : Addr} {xs : List (Str × V)} {o2 : HO} {zs : List V} (hp : H p = some (.ins C dx xs)) (h : SqF K H a zs) : SqF K (upd H p o2) a zs := by
  rcases h with ⟨x, h⟩ | h
  · exact .inl ⟨x, by rw [upd_ne (ne_of h hp (by intro z; cases z))]; exact h⟩
  · exact .inr h
theorem Le.mutI {p C dx : Addr} {n : Nat} {xs : List (Str × V)} {o2 : HO} (hp : H p = some (.ins C dx xs)) (hi : io[n]? = some p) : Le K io H io (upd H p o2) := ⟨fun _ _ h => h, fun a xs h => by
  rcases h with h | h
  · exact .inl (rd_mutI hp h)
  · exact .inr h, fun a xs h => fz_mutI hp h, fun a o h k => ⟨by rw [upd_ne fun z => k (by rw [z]; exact List.mem_of_getElem? hi)]; exact h, k⟩⟩
theorem SR.updI {n : Nat} {a dx : Addr} {C : Str} {fs0 fs : List (Str × Val)} {vs0 : List (Str × V)} {vs : List V} (r : SR K io H S) (hn : io[n]? = some a) (h0 : S[n]? = some (.ins C fs0)) (ha : H a = some (.ins (He.ga K C) dx vs0)) (hd : H dx = some (.own a)) (hx : dx ∉ io) (h : VRs K io H (fs.map (·.2)) vs) :
    SR K io (L2.upd H a (.ins (He.ga K C) dx ((fs.map (·.1)).zip vs))) (S.set n (.ins C fs)) := by
  have L : Le K io H io (L2.upd H a (.ins (He.ga K C) dx ((fs.map (·.1)).zip vs))) := Le.mutI ha hn
  refine ⟨by rw [List.length_set]; exact r.len, r.inj, fun m b o h1 h2 => ?_⟩
  by_cases e : m = n
  · subst e
    have eb : b = a := Option.some.inj (h1.symm.trans hn)
    subst eb
    have hl := (List.getElem?_eq_some_iff.mp h0).1
    rw [List.getElem?_set_self hl] at h2
    have e := Option.some.inj h2
    subst e
    have nd : dx ≠ b := fun z => by rw [z, ha] at hd; cases hd
    exact ⟨dx, vs, upd_same, by rw [upd_ne nd]; exact hd, hx, VRs.mono L _ _ h⟩
  · rw [List.getElem?_set_ne (Ne.symm e)] at h2
    have nb : b ≠ a := fun z => e (r.inj m n a (by rw [← z]; exact h1) hn)
    have q := r.obj m b o h1 h2
    exact q.keep (upd_ne nb) (fun b x hb hn => L.fr b _ hb hn) fun xs vs k => VRs.mono L xs vs k
/-- a new instance without fields -/
theorem SR.newI {p dx : Addr} {C : Str} (r : SR K io H S) (hp : H p = none) (hd : H dx = none) (hne : dx ≠ p) : Le K io H (io ++ [p]) (L2.upd (L2.upd H dx (.own p)) p (.ins (He.ga K C) dx [])) ∧ SR K (io ++ [p]) (L2.upd (L2.upd H dx (.own p)) p (.ins (He.ga K C) dx [])) (S ++ [.ins C []]) := by
  have hp2 : L2.upd H dx (.own p) p = none := by rw [upd_ne (Ne.symm hne)]; exact hp
  have L1 : Le K io H io (L2.upd H dx (.own p)) := Le.new hd
  have M2 : Le K io (L2.upd H dx (.own p)) (io ++ [p]) (L2.upd (L2.upd H dx (.own p)) p (.ins (He.ga K C) dx [])) := Le.newL hp2
  have r1 : SR K io (L2.upd H dx (.own p)) S := r.new hd
  have nep : ∀ (n : Nat) (a : Addr), io[n]? = some a → a ≠ p ∧ a ≠ dx := fun n a e => by
    have hn := (List.getElem?_eq_some_iff.mp e).1
    rw [r.len] at hn
    have := (r.obj n a _ e (List.getElem?_eq_getElem hn)).some
    exact ⟨fun z => this (by rw [z]; exact hp), fun z => this (by rw [z]; exact hd)⟩
  have lim : ∀ (n : Nat) (a : Addr), (io ++ [p])[n]? = some a → (io[n]? = some a ∧ n < io.length) ∨ (n = io.length ∧ a = p) := fun n a e => by
    by_cases hn : n < io.length
    · rw [List.getElem?_append_left hn] at e
      exact .inl ⟨e, hn⟩
    · have hl := (List.getElem?_eq_some_iff.mp e).1
      rw [List.length_append, List.length_singleton] at hl
      have e0 : n = io.length := by omega
      subst e0
      rw [List.getElem?_append_right (Nat.le_refl _), Nat.sub_self] at e
      exact .inr ⟨rfl, (Option.some.inj e).symm⟩
  refine ⟨L1.trans M2, by rw [List.length_append, List.length_append, r.len]; rfl, fun n m a h1 h2 => ?_, fun n a o h1 h2 => ?_⟩
  · rcases lim n a h1 with ⟨e1, _⟩ | ⟨rfl, rfl⟩
    · rcases lim m a h2 with ⟨e2, _⟩ | ⟨rfl, rfl⟩
      · exact r.inj n m a e1 e2
      · exact absurd rfl (nep n a e1).1
    · rcases lim m a h2 with ⟨e2, _⟩ | ⟨h, _⟩
      · exact absurd rfl (nep m a e2).1
      · exact h.symm
  · rcases lim n a h1 with ⟨e1, hn⟩ | ⟨rfl, rfl⟩
    · rw [List.getElem?_append_left (by rw [← r.len]; exact hn)] at h2
      exact (r1.obj n a o e1 h2).new hp2 M2
    · rw [r.len, List.getElem?_append_right (Nat.le_refl _), Nat.sub_self] at h2
      have e := Option.some.inj h2
      subst e
      refine ⟨dx, [], upd_same, by rw [upd_ne hne]; exact upd_same, fun z => ?_, rfl⟩
      rcases List.mem_append.mp z with z | z
      · obtain ⟨i, hi⟩ := List.mem_iff_getElem?.mp z
        exact (nep i dx hi).2 rfl
      · exact hne (List.mem_singleton.mp z)
end
/-- a class as it stands, with these fields -/
structure ClsF (K : PySem.W.Frag) (c f : Str) : Prop where
  cls : Cls K (He.ga K c)
  no : NoAttr K (He.ga K c) f
def gFld (c f : Str) : Val → M Val := fun x S => match x with
  | .loc n => (match S[n]? with
    | some (.ins C fs) => if C = c then (match fs.lookup f with | some v => .ok v S | none => .bad) else .bad
    | _ => .bad)
  | _ => .bad
/-- e.f -/
def mFld (c f : Str) (a : Ev → M Val) : Ev → M Val := fun env S => (a env S).bind fun x S1 => gFld c f x S1
def putO (c f : Str) (x y : Val) (env : Ev) : M (Fl × Ev) := fun S => match x with
  | .loc n => (match S[n]? with
    | some (.ins C fs) => if C = c ∧ fs.length < 900 then .ok (.nx, env) (S.set n (.ins C (putV f y fs))) else .bad
    | _ => .bad)
  | _ => .bad
/-- o.f = e -/
def sFld (c f : Str) (o e : Ev → M Val) : SM := fun env S => (e env S).bind fun y S1 => (o env S1).bind fun x S2 => putO c f x y env S2
/-- o.f op= e -/
def sFldA (c f : Str) (g : Val → Val → M Val) (o e : Ev → M Val) : SM := fun env S => (o env S).bind fun x S1 => (gFld c f x S1).bind fun v S2 => (e env S2).bind fun y S3 => (g v y S3).bind fun z S4 => putO c f x z env S4
/-- C(..), C with an __init__ -/
def mMake (c : Str) (g : List Val → M Val) (m : Ev → M (List Val)) : Ev → M Val := fun env S => (m env S).bind fun xs S1 => (g (.loc S1.length :: xs) (S1 ++ [.ins c []])).bind fun v S2 => match v with
  | .non => .ok (.loc S1.length) S2
  | _ => .bad
/-- what is never come to -/
def sBad : SM := fun _ _ => .bad
section
variable {X : Cx} {E : XK} {a o e value : Expr} {es : List Expr} {f x : Str} {pos pos' tpos p : Pos} {ma mo me : Ev → M Val}
theorem pem_fld {c : Str} (hc : ClsF X.K c f) (ha : PEm X E a ma) (hb : attributeBase a f X.env (eval a X.env) = eval a X.env := by rfl) : PEm X E (.Attribute a f pos) (mFld c f ma) := by
  obtain ⟨ta, pa, qa⟩ := ha.ex
  refine ⟨_, pe_fld pa hb, fun io σ H env S Q er sr h => ?_⟩
  refine qa io σ H env S _ er sr (fin_bind h fun x S1 io1 H1 v _ l1 s1 r1 h1 => ?_)
  unfold gFld at h1
  cases x with
  | loc n =>
    obtain ⟨q, hi, rfl⟩ := r1
    simp only at h1
    cases eo : S1[n]? with
    | none => simp only [eo] at h1; exact h1.elim
    | some ob =>
      cases ob with
      | ins C fs =>
        simp only [eo] at h1
        by_cases hC : C = c
        · subst hC
          simp only [if_true] at h1
          cases el : fs.lookup f with
          | none => simp only [el] at h1; exact h1.elim
          | some w =>
            simp only [el] at h1
            obtain ⟨dx, vs, hv, _, _, k⟩ := s1.is eo hi
            obtain ⟨u, e2, ru⟩ := ins_look k el
            exact ⟨q, _, dx, _, u, rfl, hv, hc.cls, hc.no, e2, fin_here h1 s1 ru⟩
        · simp only [if_neg hC] at h1; exact h1.elim
      | _ => simp only [eo] at h1; exact h1.elim
  | _ => exact h1.elim
theorem put_run {c : Str} {y z : Val} {v : V} {n : Nat} {q : Addr} {io : List Addr} {H : Hp} {S : Sto} {env : Ev} {σ : L2.St} {D : Ends} (er : ER X.K io H env σ) (s : SR X.K io H S) (hi : io[n]? = some q) (ry : VR X.K io H y v) (h : FinS X.K E io H D (putO c f (.loc n) y env S)) :
    ∃ dx fs, H q = some (.ins (He.ga X.K c) dx fs) ∧ fs.length < 1000 ∧ D.nx σ (upd H q (.ins (He.ga X.K c) dx (putF f v fs))) := by
  unfold putO at h
  simp only at h
  cases eo : S[n]? with
  | none => simp only [eo] at h; exact h.elim
  | some ob =>
    cases ob with
    | ins C fs =>
      simp only [eo] at h
      by_cases hC : C = c ∧ fs.length < 900
      · rw [if_pos hC] at h
        obtain ⟨rfl, hl⟩ := hC
        obtain ⟨dx, vs, hv, hd, hx, k⟩ := s.is eo hi
        obtain ⟨ws, e2, k2⟩ := ins_put ry k
        refine ⟨dx, _, hv, by rw [List.length_zip, List.length_map]; omega, ?_⟩
        rw [e2]
        have L : Le X.K io H io (upd H q (.ins (He.ga X.K C) dx (((putV f y fs).map (·.1)).zip ws))) := Le.mutI hv hi
        exact h io _ σ L (s.updI hi eo hv hd hx k2) (er.mono L)
      · rw [if_neg hC] at h; exact h.elim
    | _ => simp only [eo] at h; exact h.elim
theorem psm_fld {c : Str} (hc : ClsF X.K c f) (he : PEm X E value me) (ho : PEm X E o mo) (hs : swapsWith value (some (.Attribute o f pos')) pos.line X.env = pure false := by rfl) : PSm X E (.Assign [.Attribute o f pos'] value pos) (sFld c f mo me) := by
  obtain ⟨te, pe, qe⟩ := he.ex
  obtain ⟨to, po, qo⟩ := ho.ex
  refine ⟨_, ps_fld po pe hs, fun io σ H env S D er sr h => ?_⟩
  refine qe io σ H env S _ er sr (fis_bind h fun y S1 io1 H1 v _ l1 s1 r1 h1 => ?_)
  refine qo io1 σ H1 env S1 _ (er.mono l1) s1 (fis_bind h1 fun x S2 io2 H2 w _ l2 s2 r2 h2 => ?_)
  cases x with
  | loc n =>
    obtain ⟨q, hi, rfl⟩ := r2
    obtain ⟨dx, fs, e1, e2, e3⟩ := put_run (z := y) (er.mono (l1.trans l2)) s2 hi (VR.mono l2 _ _ r1) h2
    exact ⟨q, _, dx, fs, rfl, e1, hc.cls, hc.no, e2, e3⟩
  | _ => exact h2.elim
theorem psm_fldA {c : Str} {op : Operator} {g : Val → Val → M Val} (hc : ClsF X.K c f) (hop : OpM X E (inplaceOp op) g) (ho : PEm X E o mo) (he : PEm X E value me) : PSm X E (.AugAssign (.Attribute o f tpos) op value pos) (sFldA c f g mo me) := by
  obtain ⟨te, pe, qe⟩ := he.ex
  obtain ⟨to, po, qo⟩ := ho.ex
  obtain ⟨r, pr, qr⟩ := hop
  refine ⟨_, ps_fldaug (rd := r) po pe (fun pins s σ H x y v u Q I rx ry h => pr pins s σ H x y v u Q I rx ry h), fun io σ H env S D er sr h => ?_⟩
  refine qo io σ H env S _ er sr (fis_bind h fun x S1 io1 H1 w _ l1 s1 r1 h1 => ?_)
  cases x with
  | loc n =>
    obtain ⟨q, hi, rfl⟩ := r1
    unfold gFld at h1
    simp only at h1
    cases eo : S1[n]? with
    | none => simp only [eo] at h1; exact h1.elim
    | some ob =>
      cases ob with
      | ins C fs =>
        simp only [eo] at h1
        by_cases hC : C = c
        · subst hC
          simp only [if_true] at h1
          cases el : fs.lookup f with
          | none => simp only [el] at h1; exact h1.elim
          | some x0 =>
            simp only [el] at h1
            obtain ⟨dx, vs, hv, _, _, k⟩ := s1.is eo hi
            obtain ⟨u, e2, ru⟩ := ins_look k el
            refine ⟨q, _, dx, _, u, rfl, hv, hc.cls, hc.no, e2, ?_⟩
            have h1 : FinS X.K E io1 H1 D ((me env S1).bind fun y S3 => (g x0 y S3).bind fun z S4 => putO C f (.loc n) z env S4) := h1
            refine qe io1 σ H1 env S1 _ (er.mono l1) s1 (fis_bind h1 fun y S3 io3 H3 yv _ l3 s3 r3 h3 => ?_)
            refine qr io3 H3 S3 x0 y u yv _ s3 (VR.mono l3 _ _ ru) r3 (fis_bind h3 fun z S4 io4 H4 zv _ l4 s4 r4 h4 => ?_)
            obtain ⟨dx', fs', e1, e2, e3⟩ := put_run (z := z) (er.mono (l1.trans (l3.trans l4))) s4 ((l3.trans l4).ia n q hi) r4 h4
            exact ⟨dx', fs', e1, e2, e3⟩
        · simp only [if_neg hC] at h1; exact h1.elim
      | _ => simp only [eo] at h1; exact h1.elim
  | _ => exact h1.elim
/-- a class's __init__ as it stands -/
structure Ini (P : Program) (w : World) (K : PySem.W.Frag) (mg : Str → Option Value) (base : Heap) (CX : CXT) (k : Nat) (c : Str) (g : List Val → M Val) : Prop where
  ex : ∃ f fd ps, L2.Mk K (He.ga K c) f ∧ FnOk P w K mg base CX k f fd ps (spI K g) ∧ mg c = some (.ref (He.ga K c)) ∧ Binds K fd ps []
theorem pem_make {CX : CXT} {k : Nat} {g : List Val → M Val} {mr : Ev → M (List Val)} (c : Ini X.prog X.w X.K X.mg X.base CX k x g) (hr : Room (k + 1) X.A) (hx : Passes CX X E) (ha : PAm X E (e :: es) mr) (hg : Gl X x := by rfl) (hdb : (x == ("__debug__" : Str)) = false := by decide) (he : starEach (e :: es) X.env = (false, eval e X.env) :: starEach es X.env := by rfl) (hpl : (backTo pos (starEach es X.env)).any (·.1) = false := by rfl) :
    PEm X E (.Call (.Name x p) (e :: es) [] pos) (mMake x g mr) := by
  obtain ⟨f, fd, ps, M, F, hm, hb⟩ := c.ex
  obtain ⟨t, pt, qt⟩ := ha.ex
  refine ⟨_, pe_make M F hr hg hm hb .nil hx pt hdb he hpl, fun io σ H env S Q er sr h => ?_⟩
  refine qt io σ H env S _ er sr (fin_bind h fun xs S1 io1 H1 vs _ l1 s1 r1 h1 => ?_)
  rw [List.append_nil]
  intro y dx hy hd hne
  obtain ⟨L, s2⟩ := SR.newI (C := x) s1 hy hd hne
  refine ⟨io1 ++ [y], S1 ++ [.ins x []], .loc S1.length :: xs, s2, ⟨_, _, rfl, ⟨y, ?_, rfl⟩, VRs.mono L _ _ r1⟩, ?_⟩
  · rw [← s1.len, List.getElem?_append_right (Nat.le_refl _), Nat.sub_self]; rfl
  · refine fin_bind (FinG.mono L h1) fun v S2 io2 H2 u _ l2 s3 r2 h2 => ?_
    cases v with
    | non =>
      cases (show u = .non from r2)
      refine ⟨rfl, fin_here h2 s3 ⟨y, ?_, rfl⟩⟩
      refine l2.ia _ _ ?_
      rw [← s1.len, List.getElem?_append_right (Nat.le_refl _), Nat.sub_self]; rfl
    | _ => exact h2.elim
theorem psm_bad {st : Stmt} : PSm X E st sBad := ⟨fun _ _ _ => False, ⟨fun _ _ _ _ _ _ h => h.elim⟩, fun io σ H env S D er sr h => h.elim⟩
end
/-! ### written dicts with texts for keys -/
/-- the dict x of the module holds just these -/
structure KD (K : PySem.W.Frag) (w : World) (mg : Str → Option Value) (x : Str) (kvs : List (List Nat × Val)) : Prop where
  ex : ∃ d es n, mg x = some (.ref d) ∧ KDict K w d es n ∧ ∀ z : List Nat, match kvs.lookup z with
    | some y => ∃ u v, PySem.W.nsIn K d ⟨z.toArray⟩ = some (some u) ∧ RelV v u ∧ ∀ io H, VR K io H y v
    | none => PySem.W.nsIn K d ⟨z.toArray⟩ = some none
/-- a in x -/
def mInD (kvs : List (List Nat × Val)) (a : Ev → M Val) : Ev → M Bool := fun env S => (a env S).bind fun x S1 => match x with
  | .str z => .ok (kvs.lookup z).isSome S1
  | _ => .bad
/-- x[a] -/
def mGetD (kvs : List (List Nat × Val)) (a : Ev → M Val) : Ev → M Val := fun env S => (a env S).bind fun x S1 => match x with
  | .str z => (match kvs.lookup z with | some v => .ok v S1 | none => .bad)
  | _ => .bad
section
variable {X : Cx} {E : XK} {a : Expr} {x : Str} {pos p : Pos} {ma : Ev → M Val} {kvs : List (List Nat × Val)}
theorem ix_kd {d : Addr} {es : Array DictEntry} {n : Nat} (D : KDict X.K X.w d es n) : IxR X (fun x y H Q => ∃ (z : Str) (u0 : Value) (v0 : V), x = .ref d ∧ y = .str z ∧ PySem.W.nsIn X.K d z = some (some u0) ∧ RelV v0 u0 ∧ Q v0 H) := by
  intro value slice pins s σ H x y v u Q I rx ry h hs
  have hd := kd_type D I
  have hg := op_item_kd D pins s σ H x y v u Q I rx ry h
  obtain ⟨z, u0, v0, rfl, rfl, e, r, q⟩ := h
  cases rx
  exact tail_any hd PySem.F.slot_dict_getitem.lookup hg hs
theorem ptm_inD (D : KD X.K X.w X.mg x kvs) (ha : PEm X E a ma) (hg : Gl X x := by rfl) (hd : (x == ("__debug__" : Str)) = false := by decide) (hm : behindInMarks .In (.Name x p) = false := by first | exact nomark _ | rfl) : PTm X E (.Compare a [.In] [.Name x p] pos) (mInD kvs ma) := by
  obtain ⟨ta, pa, qa⟩ := ha.ex
  obtain ⟨d, es, n, e1, e2, e3⟩ := D.ex
  refine ⟨_, pt_cmpR (op_in_kd e2) pa (pe_glob hg e1 (v := .ref d) rfl hd) hm, fun io σ H env S Q er sr h => ?_⟩
  refine qa io σ H env S _ er sr (fin_bind h fun y S1 io1 H1 v _ l1 s1 r1 h1 => ?_)
  cases y with
  | str z =>
    cases (show v = .str ⟨z.toArray⟩ from r1)
    have e4 := e3 z
    cases e : kvs.lookup z with
    | none =>
      rw [e] at e4
      simp only [e, Option.isSome_none] at h1
      exact ⟨⟨z.toArray⟩, none, rfl, rfl, e4, false, rfl, fin_here h1 s1 rfl⟩
    | some y =>
      rw [e] at e4
      obtain ⟨u, v, f1, f2, f3⟩ := e4
      simp only [e, Option.isSome_some] at h1
      exact ⟨⟨z.toArray⟩, some u, rfl, rfl, f1, true, rfl, fin_here h1 s1 rfl⟩
  | _ => exact h1.elim
theorem pem_getD (D : KD X.K X.w X.mg x kvs) (ha : PEm X E a ma) (hs : PlainIx a := by exact fun _ _ => rfl) (hg : Gl X x := by rfl) (hd : (x == ("__debug__" : Str)) = false := by decide) : PEm X E (.Subscript (.Name x p) a pos) (mGetD kvs ma) := by
  obtain ⟨ta, pa, qa⟩ := ha.ex
  obtain ⟨d, es, n, e1, e2, e3⟩ := D.ex
  have ixk : IxR X (fun x y H Q => ∃ (z : Str) (u0 : Value) (v0 : V), x = .ref d ∧ y = .str z ∧ PySem.W.nsIn X.K d z = some (some u0) ∧ RelV v0 u0 ∧ Q v0 H) := ix_kd e2
  refine ⟨_, pe_ix ixk (pe_glob hg e1 (v := .ref d) rfl hd) pa hs, fun io σ H env S Q er sr h => ?_⟩
  refine qa io σ H env S _ er sr (fin_bind h fun y S1 io1 H1 v _ l1 s1 r1 h1 => ?_)
  cases y with
  | str z =>
    cases (show v = .str ⟨z.toArray⟩ from r1)
    have e4 := e3 z
    cases e : kvs.lookup z with
    | none =>
      simp only [e] at h1
      exact h1.elim
    | some y =>
      rw [e] at e4
      obtain ⟨u, v, f1, f2, f3⟩ := e4
      simp only [e] at h1
      exact ⟨⟨z.toArray⟩, u, v, rfl, rfl, f1, f2, fin_here h1 s1 (f3 _ _)⟩
  | _ => exact h1.elim
end
/-! ### max(list, default=d) -/
theorem al_ints0 : ∀ ns : List Int, PySem.W.AlikeAll (ns.map PyData.int)
  | [] => ⟨(fun x hx => by cases hx), (fun x hx => by cases hx)⟩
  | n :: ns => al_ints n ns
def rMaxDf (K : PySem.W.Frag) : List V → List V → Hp → VK → Prop := fun vs zs H Q => ∃ (a : Addr) (ns : List Int) (d : V), vs = [V.ref a] ∧ zs = [d] ∧ SqL K H a (ns.map V.int) ∧ Q (match ns with | [] => d | n :: r => .int (r.foldl max n)) H
theorem cr_maxDf {X : Cx} (hc : X.calm = true) (hu : X.A.units + 64 < cLine) : CallRK X (.builtin "max") [Str.ofString "default"] (rMaxDf X.K) := by
  intro pins s σ H vs zs us ws Q I r rz h
  obtain ⟨a, ns, d, rfl, rfl, hs, q⟩ := h
  obtain rfl := Vals.ref1 r
  obtain ⟨w1, rfl, e1⟩ := vals1 rz
  obtain ⟨its, rv, hl, hz⟩ := I.list hs
  obtain ⟨as, hr⟩ := Dp.readsAll I (ns.map PyData.int) _ its (dp_ints ns) rv
  have hd := depth_ints ns
  refine PySem.W.max_list_default (I.ok.hd hc) hl.isList hr (al_ints0 ns) (by
    show X.A.units + 1 + _ < _
    omega) (fun e h' tk hk => ?_) fun y ys i v h' tk bs e hi rd hk => ?_
  · cases ns with
    | nil => exact ⟨d, H, I.kept hk, e1, q⟩
    | cons n ns => cases e
  · cases ns with
    | nil => cases e
    | cons n ns =>
      cases e
      rw [PySem.W.maxD_ints] at rd
      cases rd with
      | int _ t => exact ⟨.int _, H, I.kept hk, ⟨t, rfl⟩, q⟩
def mMaxDf {α : Type} (L : α → Sto → Option (List Val)) (m : Ev → M α) (d : Ev → M Val) : Ev → M Val := fun env S => (m env S).bind fun x S1 => (d env S1).bind fun y S2 => match L x S2 with
  | some xs => (match asInts xs with
    | some [] => .ok y S2
    | some (n :: r) => .ok (.int (r.foldl max n)) S2
    | none => .bad)
  | none => .bad
theorem pem_maxDf {X : Cx} {E : XK} {a de : Expr} {p pos kpos : Pos} {α : Type} {R : Hp → List Addr → Hp → α → V → Prop} {L : α → Sto → Option (List Val)} {m : Ev → M α} {md : Ev → M Val} (hc : X.calm = true) (hu : X.A.units + 64 < cLine) (w : LView X.K R L) (hm : X.mg "max" = none) (ha : PXm X E R a m) (hd : PEm X E de md) (hg : Gl X "max" := by rfl)
    (hs : starEach [a] X.env = (false, eval a X.env) :: starEach [] X.env := by rfl)
    (he : backTo pos (starEach [a] X.env) = (false, eval a X.env) :: backTo pos (starEach [] X.env) := by rfl) (hpl : (backTo pos (starEach [a] X.env)).any (·.1) = false := by rfl)
    (hall : (backToKw pos (keywordEach [⟨some "default", de, kpos⟩] X.env)).all (·.1.isSome) = true := by rfl) (hnone : (backToKw pos (keywordEach [⟨some "default", de, kpos⟩] X.env)).any (·.1.isNone) = false := by rfl) (hks : (backToKw pos (keywordEach [⟨some "default", de, kpos⟩] X.env)).filterMap (·.1) = [Str.ofString "default"] := by rfl) :
    PEm X E (.Call (.Name "max" p) [a] [⟨some "default", de, kpos⟩] pos) (mMaxDf L m md) := by
  obtain ⟨ta, pa, qa⟩ := ha.ex
  obtain ⟨td, pd, qd⟩ := hd.ex
  refine ⟨_, pe_callBK (cr_maxDf hc hu) hg hm (by decide +kernel) (pa_cons pa pa_nil hs) (pk_cons pd pk_nil) (by decide) (by decide) he hpl hall hnone hks, fun io σ H env S Q er sr h => ?_⟩
  refine qa io σ H env S _ er sr (fin_bind h fun x S1 io1 H1 v _ l1 s1 r1 h1 => ?_)
  refine qd io1 σ H1 env S1 _ (er.mono l1) s1 (fin_bind h1 fun y S2 io2 H2 u _ l2 s2 r2 h2 => ?_)
  cases e : L x S2 with
  | none => simp only [e] at h2; exact h2.elim
  | some xs =>
    simp only [e] at h2
    obtain ⟨q, vs, rfl, hv, k⟩ := w.at_ s2 (w.mono l2 r1) e
    cases ei : asInts xs with
    | none => simp only [ei] at h2; exact h2.elim
    | some ns =>
      have ev : vs = ns.map V.int := by rw [asInts_eq ei] at k; exact k.ints
      subst ev
      refine ⟨q, ns, u, rfl, rfl, SqL.of hv, ?_⟩
      cases ns with
      | nil => simp only [ei] at h2; exact fin_here h2 s2 r2
      | cons n r => simp only [ei] at h2; exact fin_here h2 s2 rfl
end Mx

set_option linter.all false
set_option maxRecDepth 100000
set_option maxHeartbeats 4000000
namespace Mx
open PySem PySem.Spec PyProof.Rows L2
/-! ### written dicts, as the top has made them -/
mutual
def valB (K : PySem.W.Frag) : Val → Value → Bool
  | .non, .none => true
  | .bl b, .bool c => b == c
  | .int i, .int j _ => decide (i = j)
  | .str x, .str y _ => decide (y = ⟨x.toArray⟩)
  | .tup xs, .ref a => (match K.lookup a with
    | some ⟨.type c, _, .seq its _, _⟩ => decide (c = "tuple") && (decide (its.size ≤ sizeLine) && valBs K xs its.toList)
    | _ => false)
  | _, _ => false
def valBs (K : PySem.W.Frag) : List Val → List Value → Bool
  | [], [] => true
  | x :: xs, u :: us => valB K x u && valBs K xs us
  | _, _ => false
end
mutual
theorem valB_ok {K : PySem.W.Frag} : ∀ (x : Val) (u : Value), valB K x u = true → ∃ v, RelV v u ∧ ∀ io H, VR K io H x v
  | .non, u, h => by
    cases u with
    | none => exact ⟨.non, rfl, fun _ _ => rfl⟩
    | _ => simp [valB] at h
  | .bl b, u, h => by
    cases u with
    | bool c =>
      simp only [valB, beq_iff_eq] at h
      subst h
      exact ⟨.bl b, rfl, fun _ _ => rfl⟩
    | _ => simp [valB] at h
  | .int i, u, h => by
    cases u with
    | int j t =>
      simp only [valB, decide_eq_true_eq] at h
      subst h
      exact ⟨.int i, ⟨t, rfl⟩, fun _ _ => rfl⟩
    | _ => simp [valB] at h
  | .str x, u, h => by
    cases u with
    | str y t =>
      simp only [valB, decide_eq_true_eq] at h
      subst h
      exact ⟨.str ⟨x.toArray⟩, ⟨t, rfl⟩, fun _ _ => rfl⟩
    | _ => simp [valB] at h
  | .tup xs, u, h => by
    cases u with
    | ref a =>
      rw [valB] at h
      split at h
      · rename_i c d its n sl q
        rw [Bool.and_eq_true, Bool.and_eq_true, decide_eq_true_eq, decide_eq_true_eq] at h
        obtain ⟨h1, h2, h3⟩ := h
        obtain ⟨vs, r, k⟩ := valBs_ok xs its.toList h3
        exact ⟨.ref a, rfl, fun io H => ⟨a, vs, rfl, .inr ⟨_, its, n, q, congrArg Value.type h1, rfl, h2, r⟩, k io H⟩⟩
      · cases h
    | _ => simp [valB] at h
  | .kl xs, u, h => by cases u <;> simp [valB] at h
  | .loc n, u, h => by cases u <;> simp [valB] at h
  | .ext a, u, h => by cases u <;> simp [valB] at h
theorem valBs_ok {K : PySem.W.Frag} : ∀ (xs : List Val) (us : List Value), valBs K xs us = true → ∃ vs, Vals vs us ∧ ∀ io H, VRs K io H xs vs
  | [], [], _ => ⟨[], .nil, fun _ _ => rfl⟩
  | [], _ :: _, h => by simp [valBs] at h
  | _ :: _, [], h => by simp [valBs] at h
  | x :: xs, u :: us, h => by
    rw [valBs, Bool.and_eq_true] at h
    obtain ⟨v, r, k⟩ := valB_ok x u h.1
    obtain ⟨vs, r2, k2⟩ := valBs_ok xs us h.2
    exact ⟨v :: vs, .cons r r2, fun io H => ⟨v, vs, rfl, k io H, k2 io H⟩⟩
end
def kStr (z : List Nat) : Str := ⟨z.toArray⟩
def dictV (x : Str) (kvs : List (List Nat × Val)) (K : PySem.W.Frag) : Bool := kvs.all fun q => match PySem.W.nsIn K (He.ga K x) (kStr q.1) with
  | some (some u) => valB K q.2 u
  | _ => false
theorem lookup_memL {z : List Nat} {y : Val} : ∀ {kvs : List (List Nat × Val)}, kvs.lookup z = some y → (z, y) ∈ kvs
  | [], h => by cases h
  | (k, v) :: r, h => by
    rw [List.lookup_cons] at h
    cases hb : z == k with
    | true =>
      rw [hb] at h
      cases h
      rw [beq_iff_eq.mp hb]
      exact List.mem_cons_self
    | false => rw [hb] at h; exact List.mem_cons_of_mem _ (lookup_memL h)
theorem lookup_noneL {z : List Nat} : ∀ {kvs : List (List Nat × Val)}, kvs.lookup z = none → ∀ q ∈ kvs, q.1 ≠ z
  | [], _, _, h => by cases h
  | (k, v) :: r, h, q, hq => by
    rw [List.lookup_cons] at h
    cases hb : z == k with
    | true => rw [hb] at h; cases h
    | false =>
      rw [hb] at h
      rcases List.mem_cons.mp hq with rfl | hq
      · exact fun e => by
          have e : k = z := e
          rw [e] at hb
          simp at hb
      · exact lookup_noneL h q hq
theorem kStr_inj {a b : List Nat} (h : kStr a = kStr b) : a = b := by
  have h : a.toArray = b.toArray := congrArg Str.cps h
  have := congrArg Array.toList h
  simpa using this
theorem no_key {P : Params} {z : Str} : ∀ {l : List DictEntry} {ks : List Str}, l.map He.keyOf = He.keysIn P ks → (∀ k ∈ ks, k ≠ z) → l.find? (·.key.isStr z) = none ∧ l.any (·.refKey) = false
  | [], _, _, _ => ⟨rfl, rfl⟩
  | e :: r, [], h, _ => by cases h
  | e :: r, k :: ks, h, hz => by
    have h1 : He.keyOf e :: r.map He.keyOf = some (k, PyData.keyHash P k) :: He.keysIn P ks := h
    injection h1 with h2 h3
    obtain ⟨f1, f2⟩ := no_key h3 fun k hk => hz k (List.mem_cons_of_mem _ hk)
    unfold He.keyOf at h2
    split at h2
    · rename_i x t q
      have h4 := Option.some.inj h2
      have hx : x = k := (Prod.mk.inj h4).1
      have hn : x ≠ z := by rw [hx]; exact hz k List.mem_cons_self
      refine ⟨?_, ?_⟩
      · have hb : e.key.isStr z = false := by
          rw [q]
          show (x == z) = false
          exact beq_eq_false_iff_ne.mpr hn
        rw [List.find?_cons]
        simp only [hb]
        exact f1
      · rw [List.any_cons, f2, Bool.or_false]
        simp [DictEntry.refKey, q]
    · cases h2
theorem kd_of {K : PySem.W.Frag} {w : World} {mg : Str → Option Value} {x : Str} {kvs : List (List Nat × Val)} (hm : mg x = some (.ref (He.ga K x))) (ht : He.dicW K (He.ga K x) = some (He.keysIn w.params (kvs.map fun q => kStr q.1))) (hv : dictV x kvs K = true) : KD K w mg x kvs := by
  obtain ⟨es, n, D⟩ := He.dicW_ok ht
  refine ⟨_, es, n, hm, D, fun z => ?_⟩
  cases e : kvs.lookup z with
  | some y =>
    have h2 := List.all_eq_true.mp hv _ (lookup_memL e)
    show ∃ u v, PySem.W.nsIn K (He.ga K x) (kStr z) = some (some u) ∧ RelV v u ∧ ∀ io H, VR K io H y v
    cases e2 : PySem.W.nsIn K (He.ga K x) (kStr z) with
    | none => simp only [e2] at h2; cases h2
    | some r =>
      cases r with
      | none => simp only [e2] at h2; cases h2
      | some u =>
        simp only [e2] at h2
        obtain ⟨v, r1, r2⟩ := valB_ok y u h2
        exact ⟨u, v, rfl, r1, r2⟩
  | none =>
    show PySem.W.nsIn K (He.ga K x) (kStr z) = some none
    have hk : es.toList.map He.keyOf = He.keysIn w.params (kvs.map fun q => kStr q.1) := by
      unfold He.dicW at ht
      rw [D.at_] at ht
      have ht : (match decide ("dict" = "dict") && ((#[] : Array (Option Value)).isEmpty && !(He.ga K x == sysModules)) with | true => some (es.toList.map He.keyOf) | false => none) = some (He.keysIn w.params (kvs.map fun q => kStr q.1)) := ht
      rw [D.low] at ht
      exact Option.some.inj ht
    obtain ⟨f1, f2⟩ := no_key (z := kStr z) hk fun k hk' => by
      obtain ⟨q, hq, rfl⟩ := List.mem_map.mp hk'
      exact fun h => lookup_noneL e q hq (kStr_inj h)
    unfold PySem.W.nsIn
    rw [D.at_]
    show (match es.toList.find? (·.key.isStr (kStr z)) with | some e => some (some e.val) | none => if es.toList.any (·.refKey) then none else some none) = some none
    rw [f1, f2]
    rfl
theorem tab_at {fa : List He.Fa} {fn : List He.DefD} {ts : List He.Tab} {w : World} {K : PySem.W.Frag} (c : He.SaysT fa fn ts w K) (i : Nat) {t : He.Tab} (h : ts[i]? = some t) : He.dicW K (t.1 K) = some (He.keysIn w.params t.2) := by
  have e : (ts.map fun t => He.dicW K (t.1 K)) = ts.map fun t => some (He.keysIn w.params t.2) := congrArg (fun z : He.AlT => z.2) c
  have e2 := congrArg (fun l => l[i]?) e
  simp only [List.getElem?_map, h, Option.map_some] at e2
  exact Option.some.inj e2
theorem opm_isub {X : Cx} {E : XK} : OpM X E (inplaceOp .Sub) gSub := by
  refine ⟨_, iop_sub, fun io H S x y v w Q s rx ry h => ?_⟩
  cases x with
  | int i =>
    cases y with
    | int j =>
      cases (show v = .int i from rx)
      cases (show w = .int j from ry)
      exact ⟨i, j, rfl, rfl, fin_here h s rfl⟩
    | _ => exact h.elim
  | _ => exact h.elim
end Mx

set_option linter.all false
set_option maxRecDepth 100000
set_option maxHeartbeats 4000000
namespace Mx
open PySem PySem.Spec PyProof.Rows L2
/-! ### texts compared -/
def gCmpS (p : List Nat → List Nat → Bool) : Val → Val → M Bool
  | .str x, .str y, S => .ok (p x y) S
  | _, _, _ => .bad
section
variable {X : Cx} {E : XK}
theorem tsm_str {op : CmpOp} {p : List Nat → List Nat → Bool} (ho : OpR X (compareOp op) (fun x y H Q => ∃ i j, x = .str i ∧ y = .str j ∧ Q (.bl (p i.cps.toList j.cps.toList)) H)) : TsM X E (compareOp op) (gCmpS p) := by
  refine ⟨_, ho, fun io H S x y v w Q s rx ry h => ?_⟩
  cases x with
  | str i =>
    cases y with
    | str j =>
      cases (show v = .str _ from rx)
      cases (show w = .str _ from ry)
      refine ⟨_, _, rfl, rfl, _, rfl, ?_⟩
      have h : FinG X.K RB E io H Q (.ok (p i j) S) := h
      simp only [List.toList_toArray]
      exact fin_here h s rfl
    | _ => exact h.elim
  | _ => exact h.elim
theorem tsm_leS : TsM X E (compareOp .LtE) (gCmpS fun x y => !decide (y < x)) := tsm_str op_le_str
theorem tsm_geS : TsM X E (compareOp .GtE) (gCmpS fun x y => !decide (x < y)) := tsm_str op_ge_str
end
end Mx

set_option linter.all false
set_option maxRecDepth 100000
set_option maxHeartbeats 4000000
namespace Mx
open PySem PySem.Spec PyProof.Rows L2
/-! ### (a, b, ..) = a tuple, or a list of the store -/
def tgU : List Tg → Val → Ev → Sto → Option Ev
  | ts, .tup xs, env, _ => tgMs ts xs env
  | ts, .loc n, env, S => (match S[n]? with | some (.lst xs) => tgMs ts xs env | _ => none)
  | _, _, _, _ => none
def gTU (K : PySem.W.Frag) (ts : List Tg) : TG := fun v σ H Q => L2.gTup K (tgN ts) (tgTs K ts) v σ H Q ∨ L2.gUnl K (tgN ts) (tgTs K ts) v σ H Q
section
variable {X : Cx} {E : XK} {e : Expr} {es : List Expr} {pos tpos : Pos} {ts : List Tg} {k : Nat} {me : Ev → M Val} {m : SM}
theorem pg_tu (hc : X.calm = true) (h : PGts X es ts) (hn : (assignEach es X.env).length = tgN ts) (hst : (assignEach es X.env).findIdx? (·.1) = none) : PG X (.Tuple es k pos) (gTU X.K ts) :=
  ⟨fun pins s σ H v u Q I r hw => hw.elim (fun h1 => (pg_tup hc h.pg hn hst).run pins s σ H v u Q I r h1) fun h1 => (pg_unl hc h.pg hn hst).run pins s σ H v u Q I r h1⟩
theorem tgU_ok {K : PySem.W.Frag} {io : List Addr} {H : Hp} {S : Sto} {x : Val} {v : V} {env env' : Ev} {σ : L2.St} {Q : L2.St → Hp → Prop} (er : ER K io H env σ) (s : SR K io H S) (r : VR K io H x v) (h : tgU ts x env S = some env')
    (k : ∀ σ', ER K io H env' σ' → Q σ' H) : gTU K ts v σ H Q := by
  cases x with
  | tup xs =>
    obtain ⟨a, vs, rfl, hs, rs⟩ := r
    have h' : tgMs ts xs env = some env' := h
    exact .inl ⟨a, vs, rfl, hs, by rw [rs.length, tgMs_len ts xs env env' h'], tgs_ok ts xs vs env env' σ Q er rs h' fun σ' er' _ => k σ' er'⟩
  | loc n =>
    obtain ⟨p, hi, rfl⟩ := r
    have h : (match S[n]? with | some (.lst xs) => tgMs ts xs env | _ => none) = some env' := h
    cases eo : S[n]? with
    | none => rw [eo] at h; cases h
    | some o =>
      rw [eo] at h
      cases o with
      | lst xs =>
        have h' : tgMs ts xs env = some env' := h
        obtain ⟨vs, hv, rs⟩ := s.is eo hi
        exact .inr ⟨p, vs, rfl, SqL.of hv, by rw [rs.length, tgMs_len ts xs env env' h'], tgs_ok ts xs vs env env' σ Q er rs h' fun σ' er' _ => k σ' er'⟩
      | _ => cases h
  | _ => cases h
def sAsgU (ts : List Tg) (e : Ev → M Val) : SM := fun env S => (e env S).bind fun x S1 => match tgU ts x env S1 with | some env1 => .ok (.nx, env1) S1 | none => .bad
theorem psm_asgU (hc : X.calm = true) (ht : PGts X es ts) (he : PEm X E e me) (hn : (assignEach es X.env).length = tgN ts := by rfl) (hst : (assignEach es X.env).findIdx? (·.1) = none := by rfl) (hs : swapsWithSole [.Tuple es k tpos] e pos.line X.env = pure false := by rfl) (hw : swappedStores [.Tuple es k tpos] e X.env = pure none := by rfl)
    (h1 : (assignEach [.Tuple es k tpos] X.env).map (·.2) = [assign (.Tuple es k tpos) X.env] := by rfl) : PSm X E (.Assign [.Tuple es k tpos] e pos) (sAsgU ts me) := by
  obtain ⟨te, p, q⟩ := he.ex
  refine ⟨_, ps_asg p (pg_tu hc ht hn hst) hs hw h1, fun io σ H env S D er sr h => ?_⟩
  refine q io σ H env S _ er sr (fis_bind h fun x S1 io1 H1 v _ l s r h1 => ?_)
  cases eg : tgU ts x env S1 with
  | none => simp only [eg] at h1; exact h1.elim
  | some env1 =>
    simp only [eg] at h1
    exact tgU_ok (er.mono l) s r eg fun σ1 er1 => h1 io1 H1 σ1 Le.refl s er1
def forIU (src : Src) (ts : List Tg) (b : SM) : Nat → Nat → SM
  | 0, _, env, S => if src.fin S = true then .ok (.nx, env) S else .bad
  | r + 1, i, env, S => match src.item S i with
    | none => .bad
    | some x => match tgU ts x env S with
      | none => .bad
      | some env2 => (b env2 S).bind fun q S2 => match q with
        | (.nx, env3) => forIU src ts b r (i + 1) env3 S2
        | (.ct, env3) => forIU src ts b r (i + 1) env3 S2
        | (.bk, env3) => .ok (.nx, env3) S2
        | (.rt x, env3) => .ok (.rt x, env3) S2
def sForU (ms : Ev → M Src) (ts : List Tg) (b : SM) : SM := fun env S => (ms env S).bind fun src S1 => forIU src ts b src.size 0 env S1
theorem psm_forU {iter : Expr} {body : List Stmt} {ms : Ev → M Src} (hp : PassesOwn (model X.prog X.w) X.A X.env X.xe) (hc : X.calm = true) (hi : PIm X E (.Tuple es k tpos) iter ms) (hg : PGts X es ts) (hb : PSsm X E body m) (hn : (assignEach es X.env).length = tgN ts := by rfl) (hst : (assignEach es X.env).findIdx? (·.1) = none := by rfl)
    (hs : ∀ x, foldedSetIterable iter X.env x = pure x := by intro _; rfl) : PSm X E (.For (.Tuple es k tpos) iter body [] pos) (sForU ms ts m) := by
  obtain ⟨wi, pi, qi⟩ := hi.ex
  refine ⟨_, ps_for hp hc pi (pg_tu hc hg hn hst) hb.ps hs, fun io σ H env S D er sr h => ?_⟩
  refine qi io σ H env S _ er sr (fis_bind h fun src S1 io1 H1 J eo l1 s1 jr h1 => ?_)
  refine ⟨fun i r σ2 H2 => ∃ io2 env2 S2, i + r = src.size ∧ Le X.K io1 H1 io2 H2 ∧ ER X.K io2 H2 env2 σ2 ∧ SR X.K io2 H2 S2 ∧ FinS X.K E io2 H2 D (forIU src ts m r i env2 S2),
    ⟨src.size, io1, env, S1, Nat.zero_add _, Le.refl, er.mono l1, s1, h1⟩, ?_⟩
  rintro i r σ2 H2 ⟨io2, env2, S2, hsz, l2, er2, s2, hf⟩
  cases r with
  | zero =>
    left
    have ei : i = src.size := by omega
    subst ei
    simp only [forIU] at hf
    by_cases hfin : src.fin S2 = true
    · rw [if_pos hfin] at hf
      exact ⟨jr.stop io2 H2 S2 l2.w s2 hfin, hf io2 H2 σ2 Le.refl s2 er2⟩
    · rw [if_neg hfin] at hf
      exact hf.elim
  | succ r =>
    right
    simp only [forIU] at hf
    cases ex : src.item S2 i with
    | none => simp only [ex] at hf; exact hf.elim
    | some x =>
      simp only [ex] at hf
      cases eg : tgU ts x env2 S2 with
      | none => simp only [eg] at hf; exact hf.elim
      | some env3 =>
        simp only [eg] at hf
        obtain ⟨jg, jy⟩ := jr.go io2 H2 S2 i x l2.w s2 ex
        refine ⟨jg, fun σ3 H3 => ∃ io3 env3 S3, i + 1 + r = src.size ∧ Le X.K io1 H1 io3 H3 ∧ ER X.K io3 H3 env3 σ3 ∧ SR X.K io3 H3 S3 ∧ FinS X.K E io3 H3 D (forIU src ts m r (i + 1) env3 S3),
          fun σ3 H3 w => ⟨r, Nat.lt_succ_self r, w⟩, fun y H' hy => ?_⟩
        obtain ⟨l3, s3, rx⟩ := jy y H' hy
        refine tgU_ok (er2.mono l3) s3 rx eg fun σ3 er3 => ?_
        refine ⟨io2, env3, S2, er3, s3, ?_⟩
        have hf := FinS.mono l3 hf
        have l23 := l2.trans l3
        cases eb : m env3 S2 with
        | bad => rw [eb] at hf; exact hf.elim
        | err x S4 => rw [eb] at hf; exact hf
        | ok q S4 =>
          rw [eb] at hf
          obtain ⟨fl, env4⟩ := q
          cases fl with
          | nx => exact fun io5 H5 σ5 l5 s5 e5 => ⟨io5, env4, S4, by omega, l23.trans l5, e5, s5, FinS.mono l5 hf⟩
          | ct => exact fun io5 H5 σ5 l5 s5 e5 => ⟨io5, env4, S4, by omega, l23.trans l5, e5, s5, FinS.mono l5 hf⟩
          | bk => exact fun io5 H5 σ5 l5 s5 e5 => hf io5 H5 σ5 l5 s5 e5
          | rt x => exact fun io5 H5 σ5 l5 s5 e5 => hf io5 H5 σ5 l5 s5 e5
/-- a loop over things that don't change, taken apart by what holds at each step -/
theorem forIU_inv {src : Src} {ts : List Tg} {b : SM} {xs : List Val} (I : Nat → Ev → Sto → Prop) (R : Fl × Ev → Sto → Prop)
    (hi : ∀ i env S, I i env S → i < xs.length → src.item S i = xs[i]?) (hf : ∀ env S, I xs.length env S → src.fin S = true ∧ R (.nx, env) S)
    (step : ∀ i x env S, xs[i]? = some x → I i env S → ∃ env2, tgU ts x env S = some env2 ∧ Wp (b env2 S) fun q S' => match q with
      | (.nx, e) => I (i + 1) e S' | (.ct, e) => I (i + 1) e S' | (.bk, e) => R (.nx, e) S' | (.rt x, e) => R (.rt x, e) S') :
    ∀ (r i : Nat) (env : Ev) (S : Sto), i + r = xs.length → I i env S → Wp (forIU src ts b r i env S) R
  | 0, i, env, S, h, hI => by
    have e : i = xs.length := by omega
    subst e
    unfold forIU
    rw [if_pos (hf env S hI).1]
    exact (hf env S hI).2
  | r + 1, i, env, S, h, hI => by
    have hl : i < xs.length := by omega
    have hx : xs[i]? = some xs[i] := List.getElem?_eq_getElem hl
    unfold forIU
    rw [hi i env S hI hl, hx]
    obtain ⟨env2, h1, h2⟩ := step i _ env S hx hI
    simp only [h1, wp_bind]
    refine Wp.mono h2 fun q S' h3 => ?_
    obtain ⟨fl, e⟩ := q
    cases fl with
    | nx => exact forIU_inv I R hi hf step r (i + 1) e S' (by omega) h3
    | ct => exact forIU_inv I R hi hf step r (i + 1) e S' (by omega) h3
    | bk => exact h3
    | rt x => exact h3
end
theorem fn_m0k {P : Program} {w : World} {K : PySem.W.Frag} {mg : Str → Option Value} {base : Heap} {k : Nat} {f : Addr} {fd : FuncData} {ps : List Str} : FnOk P w K mg base CX0 k f fd ps (spI K fun _ _ => .bad) :=
  ⟨fun vs H Q E ⟨_, _, _, _, _, h⟩ => h.elim, fun A outer s H args us vs Q E _ _ _ _ ⟨_, _, _, _, _, h⟩ => h.elim⟩
end Mx

set_option linter.all false
set_option maxRecDepth 100000
set_option maxHeartbeats 4000000
namespace Mx
open PySem PySem.Spec PyProof.Rows L2
/-! ### defs that raise -/
section
variable {P : Program} {w : World} {K : PySem.W.Frag} {mg : Str → Option Value} {base : Heap}
theorem fn_mx {x qual : Str} {st : Stmt} {f : Addr} {fd : FuncData} {N ps : List Str} {k : Nat} {m : SM} (F : FunD K x qual (defArgs st) (defBody st) (defScope st) [] [] f fd) (S : FnScope N ps (defScope st))
    (hb : ∀ (cdv : Value) (A : Around) (outer : List Env) (s : Shared) (H : Hp) (E : XK), Room k (A.deeper (envOfC qual (defScope st) s.heap.objs.size f cdv)) →
      PSsm (cxOf (L2.CX P w) P w K mg base N qual (defScope st) f cdv A outer s H E) E (defBody st) m) : FnOk P w K mg base (L2.CX P w) (k + 1) f fd ps (spI K (trm (runF ps.length N.length m))) := by
  refine F.ok S (fun vs H Q E h => ?_) (fun cdv A outer s H vs Q E hr h => ?_)
  · obtain ⟨io, St, xs, sr, r, hf⟩ := h
    have hf := trm_ok sr hf
    by_cases hl : xs.length = ps.length
    · rw [r.length, hl]
    · unfold runF at hf
      rw [if_neg hl] at hf
      exact hf.elim
  · obtain ⟨io, St, xs, sr, r, hf⟩ := h
    have hf := trm_ok sr hf
    obtain ⟨t, pt, qt⟩ := (hb cdv A outer s H E hr).ex
    refine ⟨t, pt, ?_⟩
    by_cases hl : xs.length = ps.length
    · unfold runF at hf
      rw [if_pos hl] at hf
      have er : ER K io H (xs.map some ++ List.replicate (N.length - xs.length) none) (L2.start N vs) := er_start r
      refine qt io _ H _ St _ er sr ?_
      cases eo : m (xs.map some ++ List.replicate (N.length - xs.length) none) St with
      | bad => rw [eo] at hf; exact hf
      | err y S1 => rw [eo] at hf; exact hf
      | ok q S1 =>
        rw [eo] at hf
        obtain ⟨fl, env⟩ := q
        cases fl with
        | nx => exact fun io' H' σ' l s' _ => hf io' H' .non l s' rfl
        | rt v => exact fun io' H' v l s' rv => hf io' H' v l s' rv
        | bk => exact hf.elim
        | ct => exact hf.elim
    · unfold runF at hf
      rw [if_neg hl] at hf
      exact hf.elim
theorem takesX {N : List Str} {qual : Str} {sc : Scope} {f : Addr} {cdv : Value} {A : Around} {outer : List Env} {s : Shared} {H : Hp} {E : XK} :
    L2.Takes (cxOf (L2.CX P w) P w K mg base N qual sc f cdv A outer s H E) (fun cls d _ H => E cls d H) := takes_of rfl rfl rfl rfl
theorem passX {N : List Str} {qual : Str} {sc : Scope} {f : Addr} {cdv : Value} {A : Around} {outer : List Env} {s : Shared} {H : Hp} {E : XK} :
    Passes (L2.CX P w) (cxOf (L2.CX P w) P w K mg base N qual sc f cdv A outer s H E) E := passes_call takesX fun _ _ _ _ h => h
theorem ownX {N : List Str} {qual : Str} {sc : Scope} {f : Addr} {cdv : Value} {A : Around} {outer : List Env} {s : Shared} {H : Hp} {E : XK} :
    PassesOwn (model P w) (A.deeper (envOfC qual sc s.heap.objs.size f cdv)) (envOfC qual sc s.heap.objs.size f cdv) (cxOf (L2.CX P w) P w K mg base N qual sc f cdv A outer s H E).xe := PassesOwn.leaving
end
/-! ### an own exception's __init__ that keeps one thing -/
def spE (K : PySem.W.Frag) (f : Str) : Sp := fun vs H Q _ => ∃ (a C : Addr) (y : V), vs = [.ref a, y] ∧ OexC K C ∧ PySem.W.findIn K (.ref C) f = some none ∧ H a = some (exo a C none) ∧
  ∀ dx, H dx = none → dx ≠ a → Q .non (upd (upd H dx (exd dx [(f, y)])) a (exo a C (some dx)))
section
variable {P : Program} {w : World} {K : PySem.W.Frag} {mg : Str → Option Value} {base : Heap}
theorem fn_exi1 {x qual sn p f : Str} {st : Stmt} {fa : Addr} {fd : FuncData} {k : Nat} {p1 p2 p3 p4 : Pos} (F : FunD K x qual (defArgs st) (defBody st) (defScope st) [] [] fa fd) (S : FnScope [sn, p] [sn, p] (defScope st))
    (hb : defBody st = [.Assign [.Attribute (.Name sn p1) f p2] (.Name p p3) p4]) (h1 : (defScope st).names.lookup sn = some .local) (h2 : (defScope st).names.lookup p = some .local)
    (d1 : (sn == ("__debug__" : Str)) = false := by decide) (d2 : (p == ("__debug__" : Str)) = false := by decide) (e1 : (sn == ("__classdict__" : Str)) = false := by decide) (e2 : (p == ("__classdict__" : Str)) = false := by decide)
    (hs : ∀ env : Env, swapsWith (.Name p p3) (some (.Attribute (.Name sn p1) f p2)) p4.line env = pure false := by intro _; rfl) : FnOk P w K mg base CX0 (k + 1) fa fd [sn, p] (spE K f) := by
  refine F.ok S (fun vs H Q E h => ?_) (fun cdv A outer s H vs Q E hr h => ?_)
  · obtain ⟨a, C, y, rfl, _⟩ := h
    rfl
  · obtain ⟨a, C, y, rfl, T, hno, ha, q⟩ := h
    rw [hb]
    refine ⟨_, pss_cons (ps_ost (pe_var (i := 0) rfl (.inl h1) d1 e1) (pe_var (i := 1) rfl (.inl h2) d2 e2) (hs _)) pss_nil, ?_⟩
    refine ⟨y, rfl, .ref a, rfl, a, C, rfl, T, hno, .inl ⟨ha, fun dx n ne => ?_⟩⟩
    exact q dx n ne
end
/-- an own exception class with such an __init__ -/
structure ExI (P : Program) (w : World) (K : PySem.W.Frag) (mg : Str → Option Value) (base : Heap) (k : Nat) (c f : Str) : Prop where
  ex : ∃ fI fd ps, OexC K (He.ga K c) ∧ PySem.W.findIn K (.ref (He.ga K c)) "__init__" = some (some (.ref fI)) ∧ PySem.W.typeIn K (.ref fI) = some (.type "function") ∧ FnOk P w K mg base CX0 k fI fd ps (spE K f) ∧ Binds K fd ps [] ∧ mg c = some (.ref (He.ga K c)) ∧ PySem.W.findIn K (.ref (He.ga K c)) f = some none
def sRaise1 (c f : Str) (e : Ev → M Val) : SM := fun env S => (e env S).bind fun v S1 => .err ⟨c, some [(f, v)]⟩ S1
section
variable {X : Cx} {E : XK} {e : Expr} {me : Ev → M Val} {c f : Str} {k : Nat} {p pos pos2 : Pos}
theorem psm_raise1 (hc : X.calm = true) (tk : L2.Takes X (fun cls d _ H => E cls d H)) (x : ExI X.prog X.w X.K X.mg X.base k c f) (hr : Room (k + 1) X.A) (he : PEm X E e me) (hg : Gl X c := by rfl) (hdb : (c == ("__debug__" : Str)) = false := by decide)
    (hst : starEach [e] X.env = (false, eval e X.env) :: starEach [] X.env := by rfl) (hpl : (backTo pos (starEach ([] : List Expr) X.env)).any (·.1) = false := by rfl) :
    PSm X E (.Raise (some (.Call (.Name c p) [e] [] pos)) none pos2) (sRaise1 c f me) := by
  obtain ⟨fI, fd, ps, T, iC, tI, F1, hb, hm, hno⟩ := x.ex
  obtain ⟨te, pe, qe⟩ := he.ex
  have hx : Passes CX0 X (fun _ _ _ => False) := fun _ _ _ _ _ _ _ h => h.elim
  refine ⟨_, L2.ps_raise hc tk (L2.pmk_oex (ds := []) (dvs := []) T iC tI F1 hr hb .nil hx hg hm (pa_cons pe pa_nil hst) hdb hst hpl), fun io σ H env S D er sr h => ?_⟩
  refine qe io σ H env S _ er sr (fis_bind h fun v S1 io1 H1 vv _ l1 s1 r1 h1 => ?_)
  refine ⟨(by decide : 1 ≤ 1000), fun a ha => ⟨a, He.ga X.K c, vv, rfl, T, hno, upd_same, fun dx hdx ne => ?_⟩⟩
  have hdx1 : H1 dx = none := by rw [upd_ne ne] at hdx; exact hdx
  refine ⟨rfl, dx, [(f, vv)], upd_same, by rw [upd_ne ne]; exact upd_same, hdx1, ?_⟩
  have eH : upd (L2.del (upd (upd (upd H1 a (exo a (He.ga X.K c) none)) dx (exd dx [(f, vv)])) a (exo a (He.ga X.K c) (some dx))) a) dx (.xd [(f, vv)]) = upd H1 dx (.xd [(f, vv)]) := by
    funext b
    by_cases h1 : b = dx
    · subst h1; rw [upd_same, upd_same]
    · rw [upd_ne h1, upd_ne h1]
      by_cases h2 : b = a
      · subst h2; rw [del_same, ha]
      · rw [del_ne h2, upd_ne h2, upd_ne h1, upd_ne h2]
  rw [eH]
  have L : Le X.K io1 H1 io1 (upd H1 dx (.xd [(f, vv)])) := Le.new hdx1
  exact h1 io1 _ _ _ L (s1.new hdx1) ⟨rfl, dx, [vv], rfl, upd_same, vv, [], rfl, VR.mono L _ _ r1, rfl⟩
end
/-! ### try: (v =) f(..) except C as e: .. -/
def tAm (K : PySem.W.Frag) (E : XK) (m : Ev → M (List Val)) : TA := fun σ H Q => ∃ io env S, ER K io H env σ ∧ SR K io H S ∧ FinG K (VRs K) E io H Q (m env S)
theorem PAm.pa {X : Cx} {E : XK} {es : List Expr} {m : Ev → M (List Val)} (h : PAm X E es m) : PA X es (tAm X.K E m) := by
  obtain ⟨t, p, q⟩ := h.ex
  exact ⟨fun pos pins s σ H Q I ⟨io, env, S, er, sr, hq⟩ => p.run pos pins s σ H Q I (q io σ H env S Q er sr hq)⟩
/-- what a clause's suite is, for each exception that it may catch -/
structure Hdl (X : Cx) (E : XK) (i : Nat) (suite : List Stmt) (hb : Exn → SM) : Prop where
  ex : ∃ ts : Addr → Value → Option Addr → TS, (∀ (a : Addr) (oe : Obj) (cls : Value) (d : Option Addr) (pn : List (Addr × Obj)), Zc cls d oe → (∃ vs, oe.data = .fields vs) → PSs (X.suite a ((a, oe) :: pn)) suite (ts a cls d)) ∧
    (∀ (x : Exn) (a : Addr) (io : List Addr) (σ : L2.St) (H : Hp) (env : Ev) (S : Sto) (D : Ends) (cls : Value) (d : Option Addr), XR X.K io H x cls d → H a = none → ER X.K io H (env.set i none) σ → σ[i]? = some (some (.ref a)) → SR X.K io H S → FinS X.K E io H D (hb x (env.set i none) S) → ts a cls d D σ H)
def closeO (i : Nat) : Out (Fl × Ev) → Out (Fl × Ev)
  | .ok (fl, e) S => .ok (fl, e.set i none) S
  | o => o
def asgT (tg : Option Nat) (v : Val) (env : Ev) : Ev := match tg with | some j => env.set j (some v) | none => env
/-- mt: which classes the clause catches -/
def sTry1 (tg : Option Nat) (g : List Val → M Val) (m : Ev → M (List Val)) (mt : List (Str × Bool)) (i : Nat) (hb : Exn → SM) : SM := fun env S => (m env S).bind fun xs S1 => match g xs S1 with
  | .ok v S2 => .ok (.nx, asgT tg v env) S2
  | .err x S2 => (match mt.lookup x.cls with
    | some true => if i < env.length then closeO i (hb x (env.set i none) S2) else .bad
    | some false => .err x S2
    | none => .bad)
  | .bad => .bad
section
variable {X : Cx} {E : XK} {e b₀ : Expr} {es : List Expr} {suite : List Stmt} {mr : Ev → M (List Val)} {g : List Val → M Val} {c f n : Str} {i k : Nat} {mt : List (Str × Bool)} {hb : Exn → SM} {p pos np pos' pos2 apos : Pos}
theorem er_none {K : PySem.W.Frag} {io : List Addr} {H : Hp} {env : Ev} {σ : L2.St} {u : Option V} (er : ER K io H env σ) : ER K io H (env.set i none) (σ.set i u) := by
  refine ⟨by rw [List.length_set, List.length_set]; exact er.len, fun j x e => ?_⟩
  by_cases h : i = j
  · subst h
    have hl := (List.getElem?_eq_some_iff.mp e).1
    rw [List.length_set] at hl
    rw [List.getElem?_set_self hl] at e
    cases e
  · rw [List.getElem?_set_ne h] at e
    obtain ⟨w, e2, r⟩ := er.get j x e
    exact ⟨w, by rw [List.getElem?_set_ne h]; exact e2, r⟩
theorem fis_close {io : List Addr} {H : Hp} {D : Ends} {o : Out (Fl × Ev)} (h : FinS X.K E io H D (closeO i o)) :
    FinS X.K E io H { nx := fun σ' H' => D.nx (σ'.set i none) H', rt := D.rt, bk := fun σ' H' => D.bk (σ'.set i none) H', ct := fun σ' H' => D.ct (σ'.set i none) H' } o := by
  cases o with
  | bad => exact h
  | err x S => exact h
  | ok q S =>
    obtain ⟨fl, e⟩ := q
    cases fl with
    | nx => exact fun io' H' σ' l s' r' => h io' H' _ l s' (er_none r')
    | bk => exact fun io' H' σ' l s' r' => h io' H' _ l s' (er_none r')
    | ct => exact fun io' H' σ' l s' r' => h io' H' _ l s' (er_none r')
    | rt v => exact h
theorem psm_try1 {b₀ : Stmt} {j : Nat} {v : Str} {vp : Pos} (hs : X.stack = X.env :: X.outer) (hf : X.env.frame = some X.env.locals) (hN : X.N.Nodup) (hi : X.N[i]? = some n) (hln : X.env.kindOf n = some .local) (hc : Names X c (.ref (He.ga X.K c)))
    (tk : L2.Takes X (fun cls d _ H => E cls d H)) (cl : Fd X.prog X.w X.K X.mg X.base (L2.CX X.prog X.w) k f g) (hr : ∀ pn xe, Room k (X.tr pn xe).A) (hgl : ∀ pn xe, Gl (X.tr pn xe) f) (ha : ∀ pn xe, PAm (X.tr pn xe) E (e :: es) mr) (hdl : Hdl X E i (b₀ :: suite) hb)
    (hmt : ∀ cn b, mt.lookup cn = some b → PySem.W.exmOne X.K (.ref (He.ga X.K cn)) (.ref (He.ga X.K c)) = some b)
    (hj : X.N[j]? = some v) (hjl : ∀ pn xe, Loc (X.tr pn xe).env.scope v) (hjf : ∀ pn xe, (X.tr pn xe).fn v = true ∨ (X.tr pn xe).env.scope.names.lookup v = some .local)
    (hdb : (f == ("__debug__" : Str)) = false) (he : ∀ pn xe, starEach (e :: es) (X.tr pn xe).env = (false, eval e (X.tr pn xe).env) :: starEach es (X.tr pn xe).env) (hpl : ∀ pn xe, (backTo pos (starEach es (X.tr pn xe).env)).any (·.1) = false)
    (hsw : ∀ pn xe, swapsWithSole [.Name v vp] (.Call (.Name f p) (e :: es) [] pos) apos.line (X.tr pn xe).env = pure false) (hsw2 : ∀ pn xe, swappedStores [.Name v vp] (.Call (.Name f p) (e :: es) [] pos) (X.tr pn xe).env = pure none)
    (has : ∀ pn xe, (assignEach [.Name v vp] (X.tr pn xe).env).map (·.2) = [assign (.Name v vp) (X.tr pn xe).env]) :
    PSm X E (.Try [.Assign [.Name v vp] (.Call (.Name f p) (e :: es) [] pos) apos] [.ExceptHandler (some (.Name c np)) (some n) (b₀ :: suite) pos'] [] [] pos2) (sTry1 (some j) g mr mt i hb) := by
  obtain ⟨ts, hsu, hent⟩ := hdl.ex
  obtain ⟨fa, fd, ps, F, hm, hk, hbd⟩ := cl.ex
  refine ⟨_, ps_try_as (tb := fun W => tSeq (tAsg (tCallS (spI X.K g) (WE W) (tAm X.K E mr)) (gName j)) tNext) hs hf hN hi hln hc tk (fun W pn xe tkW ow => ?_) hsu, fun io σ H env S D er sr h => ?_⟩
  · refine pss_cons (ps_asg (L2.pe_callS (X := X.tr pn xe) F (hr pn xe) (hgl pn xe) hm hk hbd (fun σ => passAt tkW σ) (ha pn xe).pa hdb (he pn xe) (hpl pn xe)) (pg_name hN hj (hjl pn xe) (hjf pn xe)) (hsw pn xe) (hsw2 pn xe) (has pn xe)) pss_nil
  · refine ⟨io, env, S, er, sr, ?_⟩
    refine fis_bind h fun xs S1 io1 H1 vs _ l1 s1 r1 h1 => ?_
    refine ⟨io1, S1, xs, s1, r1, ?_⟩
    have h1 : FinS X.K E io1 H1 D (match g xs S1 with
      | .ok v S2 => .ok (.nx, asgT (some j) v env) S2
      | .err x S2 => (match mt.lookup x.cls with
        | some true => if i < env.length then closeO i (hb x (env.set i none) S2) else .bad
        | some false => .err x S2
        | none => .bad)
      | .bad => .bad) := h1
    cases eg : g xs S1 with
    | bad => rw [eg] at h1; exact h1
    | ok v S2 =>
      rw [eg] at h1
      exact fun io2 H2 u l2 s2 r2 => h1 io2 H2 _ l2 s2 (((er.mono l1).mono l2).set j r2)
    | err x S2 =>
      rw [eg] at h1
      intro io2 H2 cl' d l2 s2 xr
      show wAs X.K _ i ts _ D cl' d σ H2
      cases em : mt.lookup x.cls with
      | none => simp only [em] at h1; exact h1.elim
      | some b =>
        have hx := hmt _ _ em
        simp only [em] at h1
        have ec : cl' = .ref (He.ga X.K x.cls) := xr.1
        refine ⟨b, by rw [ec]; exact hx, fun hb1 a hna => ?_, fun hb1 => ?_⟩
        · subst hb1
          simp only at h1
          by_cases hil : i < env.length
          · rw [if_pos hil] at h1
            have ert : ER X.K io2 H2 env σ := (er.mono l1).mono l2
            have er2 : ER X.K io2 H2 (env.set i none) (σ.set i (some (.ref a))) := er_none ert
            refine hent x a io2 _ H2 env S2 _ cl' d xr hna er2 (by rw [List.getElem?_set_self (by rw [← ert.len]; exact hil)]) s2 ?_
            exact fis_close (FinS.mono l2 h1)
          · rw [if_neg hil] at h1; exact h1.elim
        · subst hb1
          exact h1 io2 H2 cl' d l2 s2 xr
end
end Mx

set_option linter.all false
set_option maxRecDepth 100000
set_option maxHeartbeats 4000000
namespace Mx
open PySem PySem.Spec PyProof.Rows L2
/-! ### what a clause asks of its exception -/
theorem xr_mono {K : PySem.W.Frag} {io io' : List Addr} {H H' : Hp} {S : Sto} {x : Exn} {cls : Value} {d : Option Addr} (s : SR K io H S) (l : Le K io H io' H') (h : XR K io H x cls d) : XR K io' H' x cls d := by
  obtain ⟨e, h⟩ := h
  refine ⟨e, ?_⟩
  cases ef : x.fs with
  | none => rw [ef] at h; exact h
  | some l0 =>
    rw [ef] at h
    obtain ⟨p, vs, e1, e2, r⟩ := h
    have hp : p ∉ io := fun hm => by
      obtain ⟨n, hn⟩ := List.mem_iff_getElem?.mp hm
      have hl := (List.getElem?_eq_some_iff.mp hn).1
      rw [s.len] at hl
      have o := s.obj n p _ hn (List.getElem?_eq_getElem hl)
      cases eo : S[n] with
      | lst xs => rw [eo] at o; obtain ⟨_, o, _⟩ := o; rw [e2] at o; cases o
      | dic xs => rw [eo] at o; obtain ⟨_, o, _⟩ := o; rw [e2] at o; cases o
      | ins C fs => rw [eo] at o; obtain ⟨_, _, o, _⟩ := o; rw [e2] at o; cases o
    exact ⟨p, vs, e1, (l.fr p _ e2 hp).1, VRs.mono l _ _ r⟩
/-- what is known in the suite: the slot, and how the exception lies -/
def Kn (K : PySem.W.Frag) (i : Nat) (a : Addr) (x : Exn) (cls : Value) (d : Option Addr) (io : List Addr) (H : Hp) (σ : L2.St) : Prop := σ[i]? = some (some (V.ref a)) ∧ XR K io H x cls d
structure PEmI (X : Cx) (E : XK) (I : List Addr → Hp → L2.St → Prop) (e : Expr) (m : Ev → M Val) : Prop where
  ex : ∃ t, PE X e t ∧ ∀ io σ H env S Q, I io H σ → ER X.K io H env σ → SR X.K io H S → FinG X.K (VR X.K) E io H Q (m env S) → t σ H Q
structure PSmI (X : Cx) (E : XK) (I : List Addr → Hp → L2.St → Prop) (sts : List Stmt) (m : SM) : Prop where
  ex : ∃ t, PSs X sts t ∧ ∀ io σ H env S D, I io H σ → ER X.K io H env σ → SR X.K io H S → FinS X.K E io H D (m env S) → t D σ H
section
variable {X : Cx} {E : XK} {i : Nat} {a0 : Addr} {x : Exn} {cls : Value} {d : Option Addr} {a b e : Expr} {ma mb me : Ev → M Val} {pos : Pos} {rest : List Expr}
theorem pei_of {I : List Addr → Hp → L2.St → Prop} (h : PEm X E e me) : PEmI X E I e me := by
  obtain ⟨t, p, q⟩ := h.ex
  exact ⟨t, p, fun io σ H env S Q _ er sr h => q io σ H env S Q er sr h⟩
theorem pei_one {I : List Addr → Hp → L2.St → Prop} {op} (h : PEmI X E I a ma) : PEmI X E I (.BoolOp op [a] pos) ma := let ⟨t, p, q⟩ := h.ex; ⟨t, L2.pe_one p, q⟩
theorem pei_not {I : List Addr → Hp → L2.St → Prop} (ha : PEmI X E I a ma) : PEmI X E I (.UnaryOp .Not a pos) (mNotV ma) := by
  obtain ⟨t, p, q⟩ := ha.ex
  refine ⟨_, pe_notT p, fun io σ H env S Q hI er sr h => ?_⟩
  refine q io σ H env S _ hI er sr (fin_bind h fun x S1 io1 H1 v _ l1 s1 r1 h1 => ?_)
  refine tru_of (Q := fun k H2 => Q (.bl (!k)) H2) s1 r1 (fin_bind h1 fun b S2 io2 H2 b' _ l2 s2 eb h2 => ?_)
  cases (show b = b' from eb)
  exact fin_here h2 s2 rfl
theorem pei_and (ha : PEmI X E (Kn X.K i a0 x cls d) a ma) (hb : PEmI X E (Kn X.K i a0 x cls d) (.BoolOp .And (b :: rest) pos) mb) : PEmI X E (Kn X.K i a0 x cls d) (.BoolOp .And (a :: b :: rest) pos) (mAndV ma mb) := by
  obtain ⟨t, p, q⟩ := ha.ex
  obtain ⟨t2, p2, q2⟩ := hb.ex
  refine ⟨_, pe_andT p p2, fun io σ H env S Q hI er sr h => ?_⟩
  refine q io σ H env S _ hI er sr (fin_bind h fun x S1 io1 H1 v _ l1 s1 r1 h1 => ?_)
  cases et : truth x S1 with
  | bad => rw [et] at h1; exact h1.elim
  | err y S2 => exact (by cases x <;> simp only [truth] at et <;> first | cases et | (split at et <;> cases et))
  | ok k S2 =>
    have e := truth_st et
    subst e
    rw [et] at h1
    obtain ⟨k', e1, e2⟩ := tru_of (E := E) (Q := fun k' H2 => k' = k) s1 r1 (by rw [et]; exact fun _ _ b' _ _ eb => (show k = b' from eb).symm)
    subst e2
    refine ⟨_, e1, ?_⟩
    have h1 : FinG X.K (VR X.K) E io1 H1 Q (if k' = true then mb env S2 else .ok x S2) := h1
    cases k' with
    | true => exact iteT (q2 io1 σ H1 env S2 Q ⟨hI.1, xr_mono sr l1 hI.2⟩ (er.mono l1) s1 h1)
    | false => exact iteF (fin_here h1 s1 r1)
/-! ### isinstance(e, ..) -/
/-- what an own exception class must say, so that isinstance asks its instances rightly -/
structure ExcK (K : PySem.W.Frag) (D : Addr) : Prop where
  hg : PySem.W.findIn K (.ref D) "__getattribute__" = some (some (.builtin "BaseException.__getattribute__"))
  hk : PySem.W.findIn K (.ref D) "__getattr__" = some none
  hs : PySem.W.subIn K (.ref D) (.type "BaseException") = some true
  hd : PySem.W.hasDictIn K D = true
  ha : PySem.W.findIn K (.ref D) "__class__" = some (some (.builtin "object.__class__"))
  hn : PySem.W.specialIn K (.builtin "object.__class__") "__get__" = some (some (.builtin "getset_descriptor.__get__"))
  ht : PySem.W.takesIn K (.builtin "object.__class__") = some true
  hm : PySem.W.mroIn K D (.type "object") = some true
/-- e's class is D: isinstance asks rightly -/
def rIsX (K : PySem.W.Frag) (D a : Addr) (d : Option Addr) : List V → Hp → VK → Prop := fun xs H Q => ∃ (c : V) (cv : Value) (b : Bool), xs = [.ref a, c] ∧ (d = none ∨ ∃ dd fs, d = some dd ∧ H dd = some (.xd fs)) ∧ (∀ u, RelV c u → u = cv) ∧ PySem.W.kitOne K (.ref D) cv = some b ∧ Q (.bl b) H
def rIsT (K : PySem.W.Frag) (D a : Addr) (d : Option Addr) : List V → Hp → VK → Prop := fun xs H Q => ∃ (p : Addr) (cs : List V) (cvs : List Value) (b : Bool), xs = [.ref a, .ref p] ∧ H p = some (.tup cs) ∧ (d = none ∨ ∃ dd fs, d = some dd ∧ H dd = some (.xd fs)) ∧ (∀ us, Vals cs us → us = cvs) ∧ PySem.W.kitAny K (.ref D) cvs = some b ∧ Q (.bl b) H
theorem inst_at {pins : List (Addr × Obj)} {σ : L2.St} {H : Hp} {s : Shared} {a D : Addr} {oe : Obj} {d : Option Addr} {pn : List (Addr × Obj)} (hz : Zc (.ref D) d oe) (hf : ∃ vs, oe.data = .fields vs) (I : Inv (X.suite a ((a, oe) :: pn)) pins σ H s)
    (hd : d = none ∨ ∃ dd fs, d = some dd ∧ H dd = some (.xd fs)) : ∃ od, PySem.W.InstAt s.heap a oe D od := by
  obtain ⟨ha, _⟩ := I.pin (a, oe) (List.mem_append.mpr (.inl List.mem_cons_self))
  obtain ⟨vs, hv⟩ := hf
  rcases hd with rfl | ⟨dd, fs, rfl, hdd⟩
  · exact ⟨none, ha, hz.1, by unfold PySem.W.notCls; rw [hv] <;> rfl, by rw [hz.2]; trivial⟩
  · have hx : ObjOk X.prog X.w H s.heap dd (.xd fs) := I.hok dd _ hdd
    obtain ⟨mA, hns, _⟩ := hx
    obtain ⟨od, ho, _⟩ := lookIn_ns hns
    exact ⟨some od, ha, hz.1, by unfold PySem.W.notCls; rw [hv] <;> rfl, by rw [hz.2]; exact ho⟩
theorem exc_kit {K : PySem.W.Frag} {D a : Addr} {od : Option Obj} {oe : Obj} (C : ExcK K D) : PySem.W.KitX K (.ref a) (.ref D) (fun h => PySem.W.InstAt h a oe D od) := by
  have hcl : (PySem.W.clsIn K D).isSome = true := by
    have h := C.hd
    unfold PySem.W.hasDictIn at h
    cases e : PySem.W.clsIn K D with
    | some c => rfl
    | none => rw [e] at h; exact absurd h (by simp)
  exact PySem.W.kitx_exc hcl C.hg C.hk C.hs C.ha C.hn C.ht C.hm
theorem call_isX {a D : Addr} {oe : Obj} {pn : List (Addr × Obj)} (C : ExcK X.K D) (hz : Zc (.ref D) d oe) (hf : ∃ vs, oe.data = .fields vs) : CallR (X.suite a ((a, oe) :: pn)) (.builtin "isinstance") (rIsX X.K D a d) := by
  intro pins s σ H xs us Q I r h
  obtain ⟨c, cv, b, rfl, hd, hcv, e, q⟩ := h
  cases r with
  | cons rx rr =>
    cases rr with
    | cons rt rr =>
      cases rr
      cases rx
      have ec := hcv _ rt
      subst ec
      obtain ⟨od, J⟩ := inst_at hz hf I hd
      exact PySem.W.kia_one (exc_kit C) I.kIn J e (fun z => nomatch z) fun tk => ⟨.bl b, H, I.kept (t' := tk) fun _ _ z => z, rfl, q⟩
theorem call_isT {a D : Addr} {oe : Obj} {pn : List (Addr × Obj)} (C : ExcK X.K D) (hz : Zc (.ref D) d oe) (hf : ∃ vs, oe.data = .fields vs) : CallR (X.suite a ((a, oe) :: pn)) (.builtin "isinstance") (rIsT X.K D a d) := by
  intro pins s σ H xs us Q I r h
  obtain ⟨p, cs, cvs, b, rfl, hp, hd, hcv, e, q⟩ := h
  cases r with
  | cons rx rr =>
    cases rr with
    | cons rt rr =>
      cases rr
      cases rx
      cases rt
      obtain ⟨od, J⟩ := inst_at hz hf I hd
      obtain ⟨its, rv, ht, hz2⟩ := I.tuple (.inl (.inl hp))
      have ei := hcv _ rv
      subst ei
      obtain ⟨o, h1, h2, n, h3⟩ := ht
      obtain ⟨oc, odi, oda, osl⟩ := o
      dsimp only at h2 h3
      subst h2 h3
      exact PySem.W.kia_tup (exc_kit C) I.kIn J h1 e (fun z => nomatch z) fun tk => ⟨.bl b, H, I.kept (t' := tk) fun _ _ z => z, rfl, q⟩
/-- a class that a name tells -/
structure Tgt (X : Cx) (y : Str) (c : V) (cv : Value) : Prop where
  pe : ∀ pos, PE X (.Name y pos) (tC c)
  rel : ∀ u, RelV c u → u = cv
structure Tgs (X : Cx) (es : List Expr) (cs : List V) (cvs : List Value) : Prop where
  pa : PA X es (fun _ H Q => Q cs H)
  rel : ∀ us, Vals cs us → us = cvs
theorem tgs_nil : Tgs X [] [] [] := ⟨pa_nil, fun us r => by cases r; rfl⟩
theorem tgs_cons {y : Str} {c : V} {cv : Value} {es : List Expr} {cs : List V} {cvs : List Value} {p : Pos} (h : Tgt X y c cv) (r : Tgs X es cs cvs) (hs : starEach (.Name y p :: es) X.env = (false, eval (.Name y p) X.env) :: starEach es X.env := by rfl) : Tgs X (.Name y p :: es) (c :: cs) (cv :: cvs) :=
  ⟨pa_cons (h.pe p) r.pa hs, fun us r2 => by
    cases r2 with
    | cons ru rr => rw [h.rel _ ru, r.rel _ rr]⟩
/-- which classes, among those that may come, are such -/
structure IsF (K : PySem.W.Frag) (tab : List (Str × Bool)) (ok : Str → Bool → Prop) : Prop where
  ex : ∀ c b, tab.lookup c = some b → ExcK K (He.ga K c) ∧ ok c b
def mIsX (tab : List (Str × Bool)) (x : Exn) : Ev → M Val := fun _ S => match tab.lookup x.cls with | some b => .ok (.bl b) S | none => .bad
theorem xr_dict {K : PySem.W.Frag} {io : List Addr} {H : Hp} {x : Exn} {cls : Value} {d : Option Addr} (h : XR K io H x cls d) : d = none ∨ ∃ dd fs, d = some dd ∧ H dd = some (.xd fs) := by
  obtain ⟨_, h⟩ := h
  cases ef : x.fs with
  | none => rw [ef] at h; exact .inl h
  | some l =>
    rw [ef] at h
    obtain ⟨p, vs, e1, e2, _⟩ := h
    exact .inr ⟨p, _, e1, e2⟩
variable {oe : Obj} {pn : List (Addr × Obj)} {n y : Str} {np p p2 : Pos} {tab : List (Str × Bool)}
theorem pei_is (hz : Zc cls d oe) (hf : ∃ vs, oe.data = .fields vs) (hcls : cls = .ref (He.ga X.K x.cls)) {c : V} {cv : Value} (hT : Tgt (X.suite a0 ((a0, oe) :: pn)) y c cv) (hF : IsF X.K tab fun c b => PySem.W.kitOne X.K (.ref (He.ga X.K c)) cv = some b)
    (he : PE (X.suite a0 ((a0, oe) :: pn)) (.Name n np) (L2.tVar i)) (hg : Gl X "isinstance") (hm : X.mg "isinstance" = none)
    (hst : starEach [.Name n np, .Name y p2] X.env = (false, eval (.Name n np) X.env) :: starEach [.Name y p2] X.env := by rfl) (hst2 : starEach [.Name y p2] X.env = [(false, eval (.Name y p2) X.env)] := by rfl) (hpl : (backTo pos (starEach [.Name y p2] X.env)).any (·.1) = false := by rfl) :
    PEmI (X.suite a0 ((a0, oe) :: pn)) E (Kn X.K i a0 x cls d) (.Call (.Name "isinstance" p) [.Name n np, .Name y p2] [] pos) (mIsX tab x) := by
  cases et : tab.lookup x.cls with
  | none =>
    refine ⟨fun _ _ _ => False, ⟨fun _ _ _ _ _ _ h => h.elim⟩, fun io σ H env S Q _ er sr h => ?_⟩
    unfold mIsX at h
    simp only [et] at h
    exact h
  | some b =>
    obtain ⟨hC, hk⟩ := hF.ex _ _ et
    subst hcls
    refine ⟨_, pe_callB (X := X.suite a0 ((a0, oe) :: pn)) (call_isX hC hz hf) hg hm (by decide +kernel) (pa_cons he (pa_cons (hT.pe p2) pa_nil hst2) hst) (by decide) (by decide) hst hpl, fun io σ H env S Q hI er sr h => ?_⟩
    unfold mIsX at h
    simp only [et] at h
    exact ⟨.ref a0, hI.1, c, cv, b, rfl, xr_dict hI.2, hT.rel, hk, fin_here (R := VR X.K) h sr (by exact rfl)⟩
theorem pei_ist (hz : Zc cls d oe) (hf : ∃ vs, oe.data = .fields vs) (hcls : cls = .ref (He.ga X.K x.cls)) {es : List Expr} {cs : List V} {cvs : List Value} {k : Nat} {tp : Pos} (hT : Tgs (X.suite a0 ((a0, oe) :: pn)) es cs cvs) (hl : cs.length ≤ 100) (hF : IsF X.K tab fun c b => PySem.W.kitAny X.K (.ref (He.ga X.K c)) cvs = some b)
    (he : PE (X.suite a0 ((a0, oe) :: pn)) (.Name n np) (L2.tVar i)) (hg : Gl X "isinstance") (hm : X.mg "isinstance" = none)
    (hst : starEach [.Name n np, .Tuple es k tp] X.env = (false, eval (.Name n np) X.env) :: starEach [.Tuple es k tp] X.env := by rfl) (hst2 : starEach [.Tuple es k tp] X.env = [(false, eval (.Tuple es k tp) X.env)] := by rfl) (hpl : (backTo pos (starEach [.Tuple es k tp] X.env)).any (·.1) = false := by rfl) :
    PEmI (X.suite a0 ((a0, oe) :: pn)) E (Kn X.K i a0 x cls d) (.Call (.Name "isinstance" p) [.Name n np, .Tuple es k tp] [] pos) (mIsX tab x) := by
  cases et : tab.lookup x.cls with
  | none =>
    refine ⟨fun _ _ _ => False, ⟨fun _ _ _ _ _ _ h => h.elim⟩, fun io σ H env S Q _ er sr h => ?_⟩
    unfold mIsX at h
    simp only [et] at h
    exact h
  | some b =>
    obtain ⟨hC, hk⟩ := hF.ex _ _ et
    subst hcls
    refine ⟨_, pe_callB (X := X.suite a0 ((a0, oe) :: pn)) (call_isT hC hz hf) hg hm (by decide +kernel) (pa_cons he (pa_cons (pe_tup hT.pa) pa_nil hst2) hst) (by decide) (by decide) hst hpl, fun io σ H env S Q hI er sr h => ?_⟩
    unfold mIsX at h
    simp only [et] at h
    refine ⟨.ref a0, hI.1, Nat.le_trans hl (by decide), fun q hq => ?_⟩
    have L : Le X.K io H io (upd H q (.tup cs)) := Le.new hq
    exact ⟨q, cs, cvs, b, rfl, upd_same, xr_dict (xr_mono sr L hI.2), hT.rel, hk, h io _ _ L (sr.new hq) rfl⟩
/-- e.f -/
def mXf (f : Str) (x : Exn) : Ev → M Val := fun _ S => match x.fs with | some l => (match l.lookup f with | some v => .ok v S | none => .bad) | none => .bad
theorem pei_xf {c f : Str} (hz : Zc cls d oe) (hf : ∃ vs, oe.data = .fields vs) (hcls : cls = .ref (He.ga X.K x.cls)) (hxc : x.cls = c) (T : XfC X.K (He.ga X.K c)) (hno : PySem.W.findIn X.K (.ref (He.ga X.K c)) f = some none)
    (he : PE (X.suite a0 ((a0, oe) :: pn)) (.Name n np) (L2.tVar i)) (hb : attributeBase (.Name n np) f X.env (eval (.Name n np) X.env) = eval (.Name n np) X.env := by rfl) :
    PEmI (X.suite a0 ((a0, oe) :: pn)) E (Kn X.K i a0 x cls d) (.Attribute (.Name n np) f pos) (mXf f x) := by
  subst hxc
  refine ⟨_, pe_xf T hno hz hf he hb, fun io σ H env S Q hI er sr h => ?_⟩
  unfold mXf at h
  obtain ⟨h1, h2, h3⟩ := hI
  cases ef : x.fs with
  | none => simp only [ef] at h; exact h.elim
  | some l =>
    rw [ef] at h3
    obtain ⟨dd, vs, e1, e2, r⟩ := h3
    simp only [ef] at h
    cases el : l.lookup f with
    | none => simp only [el] at h; exact h.elim
    | some v =>
      simp only [el] at h
      obtain ⟨u, e3, ru⟩ := ins_look r el
      exact ⟨.ref a0, h1, rfl, hcls, dd, _, u, e1, e2, e3, fin_here h sr ru⟩
/-! ### assignments in the suite -/
variable {st : List Stmt} {m m2 : SM} {j : Nat} {v : Str} {vp apos : Pos}
theorem psi_one (he : PEmI X E (Kn X.K i a0 x cls d) e me) (hN : X.N.Nodup) (hj : X.N[j]? = some v) (hl : Loc X.env.scope v) (hfn : X.fn v = true ∨ X.env.scope.names.lookup v = some .local)
    (hs : swapsWithSole [.Name v vp] e apos.line X.env = pure false := by rfl) (hw : swappedStores [.Name v vp] e X.env = pure none := by rfl) (h1 : (assignEach [.Name v vp] X.env).map (·.2) = [assign (.Name v vp) X.env] := by rfl) :
    PSmI X E (Kn X.K i a0 x cls d) [.Assign [.Name v vp] e apos] (sAsg (.name j) me) := by
  obtain ⟨t, p, q⟩ := he.ex
  refine ⟨_, pss_one (ps_asg p (pg_name hN hj hl hfn) hs hw h1), fun io σ H env S D hI er sr h => ?_⟩
  refine q io σ H env S _ hI er sr (fis_bind h fun w S1 io1 H1 u _ l s r h1 => ?_)
  exact h1 io1 H1 _ Le.refl s ((er.mono l).set j r)
theorem psi_cons (he : PEmI X E (Kn X.K i a0 x cls d) e me) (hr : PSmI X E (Kn X.K i a0 x cls d) st m) (hji : j ≠ i) (hN : X.N.Nodup) (hj : X.N[j]? = some v) (hl : Loc X.env.scope v) (hfn : X.fn v = true ∨ X.env.scope.names.lookup v = some .local)
    (hs : swapsWithSole [.Name v vp] e apos.line X.env = pure false := by rfl) (hw : swappedStores [.Name v vp] e X.env = pure none := by rfl) (h1 : (assignEach [.Name v vp] X.env).map (·.2) = [assign (.Name v vp) X.env] := by rfl) :
    PSmI X E (Kn X.K i a0 x cls d) (.Assign [.Name v vp] e apos :: st) (sSeq (sAsg (.name j) me) m) := by
  obtain ⟨t, p, q⟩ := he.ex
  obtain ⟨t2, p2, q2⟩ := hr.ex
  refine ⟨_, pss_cons (ps_asg p (pg_name hN hj hl hfn) hs hw h1) p2, fun io σ H env S D hI er sr h => ?_⟩
  have h : FinS X.K E io H D ((me env S).bind fun y S1 => m (env.set j (some y)) S1) := by
    have e : sSeq (sAsg (.name j) me) m env S = (me env S).bind fun y S1 => m (env.set j (some y)) S1 := by
      show ((me env S).bind _).bind _ = _
      cases me env S <;> rfl
    rw [← e]
    exact h
  refine q io σ H env S _ hI er sr (fis_bind h fun w S1 io1 H1 u _ l s r h1 => ?_)
  refine q2 io1 _ H1 _ S1 D ⟨?_, xr_mono sr l hI.2⟩ ((er.mono l).set j r) s h1
  rw [List.getElem?_set_ne hji]
  exact hI.1
/-- the suite, from what it does for each exception -/
theorem hdl_of {suite : List Stmt} {hb : Exn → SM} (h : ∀ (x : Exn) (a : Addr) (oe : Obj) (cls : Value) (d : Option Addr) (pn : List (Addr × Obj)), Zc cls d oe → (∃ vs, oe.data = .fields vs) → cls = .ref (He.ga X.K x.cls) →
    PSmI (X.suite a ((a, oe) :: pn)) E (Kn X.K i a x cls d) suite (hb x)) : Hdl X E i suite hb := by
  refine ⟨fun a cls d => fun D σ H => ∃ (x : Exn) (io : List Addr) (env : Ev) (S : Sto), XR X.K io H x cls d ∧ ER X.K io H (env.set i none) σ ∧ σ[i]? = some (some (.ref a)) ∧ SR X.K io H S ∧ FinS X.K E io H D (hb x (env.set i none) S),
    fun a oe cls d pn hz hf => ⟨fun pins s σ H D I ⟨x, io, env, S, xr, er, hσ, sr, hF⟩ => ?_⟩, fun x a io σ H env S D cls d xr _ er hσ sr hF => ⟨x, io, env, S, xr, er, hσ, sr, hF⟩⟩
  obtain ⟨t, p, q⟩ := (h x a oe cls d pn hz hf xr.1).ex
  exact p.run pins s σ H D I (q io σ H _ S D ⟨hσ, xr⟩ er sr hF)
/-! ### the classes that names tell -/
theorem tgt_own (hg : Gl X y) (hm : X.mg y = some (.ref (He.ga X.K y))) (hd : (y == ("__debug__" : Str)) = false := by decide) : Tgt X y (.ref (He.ga X.K y)) (.ref (He.ga X.K y)) := ⟨fun _ => pe_glob hg hm rfl hd, fun _ r => r⟩
theorem tgt_ty {T : String} (hg : Gl X y) (hm : X.mg y = none) (hv : bootBuiltins y = some (.type T)) (hn : y ≠ "__name__" := by decide) (hd : (y == ("__debug__" : Str)) = false := by decide) : Tgt X y (.ty T) (.type T) := ⟨fun _ => pe_bltn hg hm hv rfl hn hd, fun _ r => r⟩
end
end Mx

set_option linter.all false
set_option maxRecDepth 100000
set_option maxHeartbeats 4000000
namespace Mx
open PySem PySem.Spec PyProof.Rows L2
/-! ### defs that try, and let nothing out -/
def noE (g : List Val → M Val) : List Val → M Val := fun xs S => match g xs S with
  | .ok v S1 => .ok v S1
  | _ => .bad
theorem fn_noE {P : Program} {w : World} {K : PySem.W.Frag} {mg : Str → Option Value} {base : Heap} {k : Nat} {f : Addr} {fd : FuncData} {ps : List Str} {g : List Val → M Val} (F : FnOk P w K mg base (L2.CX P w) k f fd ps (spI K g)) : FnOk P w K mg base CX0 k f fd ps (spI K (noE g)) := by
  have conv : ∀ vs H Q E, spI K (noE g) vs H Q E → spI K g vs H Q (fun _ _ _ => False) := fun vs H Q E ⟨io, S, xs, sr, r, h⟩ => by
    refine ⟨io, S, xs, sr, r, ?_⟩
    unfold noE at h
    cases e : g xs S with
    | ok v S1 => rw [e] at h; exact h
    | err x S1 => rw [e] at h; exact h.elim
    | bad => rw [e] at h; exact h.elim
  refine ⟨fun vs H Q E h => F.len _ _ _ _ (conv _ _ _ _ h), fun A outer s H args us vs Q E hr e0 hb r h => ?_⟩
  refine codeAny_mono (F.run A outer s H args us vs Q _ hr e0 hb r (conv _ _ _ _ h)) fun rr s' hq => ?_
  cases rr with
  | error e =>
    obtain ⟨_, _, _, _, _, _, _, _, _, _, _, _, z⟩ := hq
    exact z.elim
  | ok fl => cases fl <;> exact hq
section
variable {X : Cx} {E : XK} {e : Expr} {es : List Expr} {suite : List Stmt} {mr : Ev → M (List Val)} {g : List Val → M Val} {c f n : Str} {i k : Nat} {mt : List (Str × Bool)} {hb : Exn → SM} {p np pos pos' pos2 apos : Pos}
theorem psm_try1e {b₀ : Stmt} (hs : X.stack = X.env :: X.outer) (hf : X.env.frame = some X.env.locals) (hN : X.N.Nodup) (hi : X.N[i]? = some n) (hln : X.env.kindOf n = some .local) (hc : Names X c (.ref (He.ga X.K c)))
    (tk : L2.Takes X (fun cls d _ H => E cls d H)) (cl : Fd X.prog X.w X.K X.mg X.base (L2.CX X.prog X.w) k f g) (hr : ∀ pn xe, Room k (X.tr pn xe).A) (hgl : ∀ pn xe, Gl (X.tr pn xe) f) (ha : ∀ pn xe, PAm (X.tr pn xe) E (e :: es) mr) (hdl : Hdl X E i (b₀ :: suite) hb)
    (hmt : ∀ cn b, mt.lookup cn = some b → PySem.W.exmOne X.K (.ref (He.ga X.K cn)) (.ref (He.ga X.K c)) = some b)
    (hdb : (f == ("__debug__" : Str)) = false) (he : ∀ pn xe, starEach (e :: es) (X.tr pn xe).env = (false, eval e (X.tr pn xe).env) :: starEach es (X.tr pn xe).env) (hpl : ∀ pn xe, (backTo pos (starEach es (X.tr pn xe).env)).any (·.1) = false)
    (hsw : ∀ pn xe, swapsWith (.Call (.Name f p) (e :: es) [] pos) none apos.line (X.tr pn xe).env = pure false) :
    PSm X E (.Try [.Expr (.Call (.Name f p) (e :: es) [] pos) apos] [.ExceptHandler (some (.Name c np)) (some n) (b₀ :: suite) pos'] [] [] pos2) (sTry1 none g mr mt i hb) := by
  obtain ⟨ts, hsu, hent⟩ := hdl.ex
  obtain ⟨fa, fd, ps, F, hm, hk, hbd⟩ := cl.ex
  refine ⟨_, ps_try_as (tb := fun W => tSeq (tDrop (tCallS (spI X.K g) (WE W) (tAm X.K E mr))) tNext) hs hf hN hi hln hc tk (fun W pn xe tkW ow => ?_) hsu, fun io σ H env S D er sr h => ?_⟩
  · exact pss_cons (ps_expr (L2.pe_callS (X := X.tr pn xe) F (hr pn xe) (hgl pn xe) hm hk hbd (fun σ => passAt tkW σ) (ha pn xe).pa hdb (he pn xe) (hpl pn xe)) (hsw pn xe)) pss_nil
  · refine ⟨io, env, S, er, sr, ?_⟩
    refine fis_bind h fun xs S1 io1 H1 vs _ l1 s1 r1 h1 => ?_
    refine ⟨io1, S1, xs, s1, r1, ?_⟩
    have h1 : FinS X.K E io1 H1 D (match g xs S1 with
      | .ok v S2 => .ok (.nx, asgT none v env) S2
      | .err x S2 => (match mt.lookup x.cls with
        | some true => if i < env.length then closeO i (hb x (env.set i none) S2) else .bad
        | some false => .err x S2
        | none => .bad)
      | .bad => .bad) := h1
    cases eg : g xs S1 with
    | bad => rw [eg] at h1; exact h1
    | ok v S2 =>
      rw [eg] at h1
      exact fun io2 H2 u l2 s2 r2 => h1 io2 H2 _ l2 s2 ((er.mono l1).mono l2)
    | err x S2 =>
      rw [eg] at h1
      intro io2 H2 cl' d l2 s2 xr
      show wAs X.K _ i ts _ D cl' d σ H2
      cases em : mt.lookup x.cls with
      | none => simp only [em] at h1; exact h1.elim
      | some b =>
        have hx := hmt _ _ em
        simp only [em] at h1
        have ec : cl' = .ref (He.ga X.K x.cls) := xr.1
        refine ⟨b, by rw [ec]; exact hx, fun hb1 a hna => ?_, fun hb1 => ?_⟩
        · subst hb1
          simp only at h1
          by_cases hil : i < env.length
          · rw [if_pos hil] at h1
            have ert : ER X.K io2 H2 env σ := (er.mono l1).mono l2
            have er2 : ER X.K io2 H2 (env.set i none) (σ.set i (some (.ref a))) := er_none ert
            refine hent x a io2 _ H2 env S2 _ cl' d xr hna er2 (by rw [List.getElem?_set_self (by rw [← ert.len]; exact hil)]) s2 ?_
            exact fis_close (FinS.mono l2 h1)
          · rw [if_neg hil] at h1; exact h1.elim
        · subst hb1
          exact h1 io2 H2 cl' d l2 s2 xr
end
/-! ### what the head asks of the classes -/
def oexB (K : PySem.W.Frag) (C : Addr) : Bool := (match K.lookup C with
  | some ⟨cl, _, .cls cd, sl⟩ => (match cd.mro, sl.toList with
    | .ref C' :: bm, [_, _, _, _, some (.builtin n), _] => decide (cl = .type "type") && (decide (C' = C) && (decide (n = "ValueError.__new__") && (!cd.hasDel && (cd.hasDict && refsVE bm))))
    | _, _ => false)
  | _ => false) && (decide (PySem.W.findIn K (.ref C) "__setattr__" = some (some (.builtin "object.__setattr__"))) && (decide (PySem.W.subIn K (.ref C) (.type "BaseException") = some true) && (decide (PySem.W.typeIn K (.ref C) = some (.type "type")) && PySem.W.keepIn K (.ref C))))
where refsVE (l : List Value) : Bool := PySem.HandSPX.refsVE l
theorem oexB_ok {K : PySem.W.Frag} {C : Addr} (h : oexB K C = true) : OexC K C := by
  unfold oexB at h
  simp only [Bool.and_eq_true, decide_eq_true_eq] at h
  obtain ⟨h0, h1, h2, h3, h4⟩ := h
  refine ⟨?_, h1, h2, h3, h4⟩
  split at h0
  · rename_i cl dd cd sl ho
    split at h0
    · rename_i C' bm k0 k1 k2 k3 n k5 hm hs
      simp only [Bool.and_eq_true, decide_eq_true_eq, Bool.not_eq_true'] at h0
      obtain ⟨rfl, rfl, rfl, hdel, hdict, hr⟩ := h0
      obtain ⟨nm, bs, mro, ns, qn, hd, sn, sub, ab, col, del⟩ := cd
      dsimp only at hm hdel hdict
      subst hm hdel hdict
      have hsl : sl = #[k0, k1, k2, k3, some (.builtin "ValueError.__new__"), k5] := by
        obtain ⟨l⟩ := sl
        simp only at hs
        rw [hs]
      subst hsl
      exact ⟨nm, qn, ns, bs, bm, sn, sub, ab, col, dd, k0, k1, k2, k3, k5, ho, hr⟩
    · cases h0
  · cases h0
def exkB (K : PySem.W.Frag) (D : Addr) : Bool := decide (PySem.W.findIn K (.ref D) "__getattribute__" = some (some (.builtin "BaseException.__getattribute__"))) && (decide (PySem.W.findIn K (.ref D) "__getattr__" = some none) && (decide (PySem.W.subIn K (.ref D) (.type "BaseException") = some true) && (PySem.W.hasDictIn K D &&
  (decide (PySem.W.findIn K (.ref D) "__class__" = some (some (.builtin "object.__class__"))) && (decide (PySem.W.specialIn K (.builtin "object.__class__") "__get__" = some (some (.builtin "getset_descriptor.__get__"))) && (decide (PySem.W.takesIn K (.builtin "object.__class__") = some true) && decide (PySem.W.mroIn K D (.type "object") = some true)))))))
theorem exkB_ok {K : PySem.W.Frag} {D : Addr} (h : exkB K D = true) : ExcK K D := by
  unfold exkB at h
  simp only [Bool.and_eq_true, decide_eq_true_eq] at h
  obtain ⟨h1, h2, h3, h4, h5, h6, h7, h8⟩ := h
  exact ⟨h1, h2, h3, h4, h5, h6, h7, h8⟩
/-- tab holds, of isinstance with such a second thing -/
def isB1 (K : PySem.W.Frag) (tab : List (Str × Bool)) (cv : Value) : Bool := tab.all fun q => exkB K (He.ga K q.1) && decide (PySem.W.kitOne K (.ref (He.ga K q.1)) cv = some q.2)
def isBT (K : PySem.W.Frag) (tab : List (Str × Bool)) (cvs : List Value) : Bool := tab.all fun q => exkB K (He.ga K q.1) && decide (PySem.W.kitAny K (.ref (He.ga K q.1)) cvs = some q.2)
theorem lookup_memS {b : Bool} {c : Str} : ∀ {tab : List (Str × Bool)}, tab.lookup c = some b → (c, b) ∈ tab
  | [], h => by cases h
  | (k, v) :: r, h => by
    rw [List.lookup_cons] at h
    cases hb : c == k with
    | true =>
      rw [hb] at h
      cases h
      rw [beq_iff_eq.mp hb]
      exact List.mem_cons_self
    | false => rw [hb] at h; exact List.mem_cons_of_mem _ (lookup_memS h)
theorem isB1_ok {K : PySem.W.Frag} {tab : List (Str × Bool)} {cv : Value} (h : isB1 K tab cv = true) : IsF K tab fun c b => PySem.W.kitOne K (.ref (He.ga K c)) cv = some b := ⟨fun c b e => by
  have := List.all_eq_true.mp h _ (lookup_memS e)
  rw [Bool.and_eq_true, decide_eq_true_eq] at this
  exact ⟨exkB_ok this.1, this.2⟩⟩
theorem isBT_ok {K : PySem.W.Frag} {tab : List (Str × Bool)} {cvs : List Value} (h : isBT K tab cvs = true) : IsF K tab fun c b => PySem.W.kitAny K (.ref (He.ga K c)) cvs = some b := ⟨fun c b e => by
  have := List.all_eq_true.mp h _ (lookup_memS e)
  rw [Bool.and_eq_true, decide_eq_true_eq] at this
  exact ⟨exkB_ok this.1, this.2⟩⟩
/-- mt holds, of the clause that names c -/
def exmB (K : PySem.W.Frag) (mt : List (Str × Bool)) (c : Str) : Bool := mt.all fun q => decide (PySem.W.exmOne K (.ref (He.ga K q.1)) (.ref (He.ga K c)) = some q.2)
theorem exmB_ok {K : PySem.W.Frag} {mt : List (Str × Bool)} {c : Str} (h : exmB K mt c = true) : ∀ cn b, mt.lookup cn = some b → PySem.W.exmOne K (.ref (He.ga K cn)) (.ref (He.ga K c)) = some b := fun cn b e =>
  of_decide_eq_true (List.all_eq_true.mp h _ (lookup_memS e))
/-- an exception class of one field -/
def exiB (K : PySem.W.Frag) (c f : Str) : Bool := oexB K (He.ga K c) && (decide (PySem.W.findIn K (.ref (He.ga K c)) "__init__" = some (some (.ref (He.ma K (He.ga K c) "__init__")))) && (decide (PySem.W.typeIn K (.ref (He.ma K (He.ga K c) "__init__")) = some (.type "function")) && (decide (PySem.W.findIn K (.ref (He.ga K c)) f = some none) && xfB K (He.ga K c))))
theorem exiB_ok {P : Program} {w : World} {K : PySem.W.Frag} {mg : Str → Option Value} {base : Heap} {c f qual x sn p : Str} {st : Stmt} {fd : FuncData} {p1 p2 p3 p4 : Pos} (h : exiB K c f = true) (hm : mg c = some (.ref (He.ga K c)))
    (F : FunD K x qual (defArgs st) (defBody st) (defScope st) [] [] (He.ma K (He.ga K c) "__init__") fd) (S : FnScope [sn, p] [sn, p] (defScope st))
    (hb : defBody st = [.Assign [.Attribute (.Name sn p1) f p2] (.Name p p3) p4]) (h1 : (defScope st).names.lookup sn = some .local) (h2 : (defScope st).names.lookup p = some .local) (hbd : Binds K fd [sn, p] [])
    (d1 : (sn == ("__debug__" : Str)) = false := by decide) (d2 : (p == ("__debug__" : Str)) = false := by decide) (e1 : (sn == ("__classdict__" : Str)) = false := by decide) (e2 : (p == ("__classdict__" : Str)) = false := by decide)
    (hs : ∀ env : Env, swapsWith (.Name p p3) (some (.Attribute (.Name sn p1) f p2)) p4.line env = pure false := by intro _; rfl) : (∀ k, ExI P w K mg base (k + 1) c f) ∧ XfC K (He.ga K c) ∧ PySem.W.findIn K (.ref (He.ga K c)) f = some none := by
  unfold exiB at h
  simp only [Bool.and_eq_true, decide_eq_true_eq] at h
  obtain ⟨a1, a2, a3, a4, a5⟩ := h
  exact ⟨fun k => ⟨_, fd, _, oexB_ok a1, a2, a3, (fn_exi1 (k := k) F S hb h1 h2 d1 d2 e1 e2 hs), hbd, hm, a4⟩, xfB_ok a5, a4⟩
end Mx

set_option linter.all false
set_option maxRecDepth 100000
set_option maxHeartbeats 4000000
namespace Mx
open PySem PySem.Spec PyProof.Rows L2
/-! ### e.f of the class c alone -/
def mXfC (c f : Str) (x : Exn) : Ev → M Val := fun env S => if x.cls = c then mXf f x env S else .bad
section
variable {X : Cx} {E : XK} {i : Nat} {a0 : Addr} {x : Exn} {cls : Value} {d : Option Addr} {oe : Obj} {pn : List (Addr × Obj)} {n : Str} {np pos : Pos}
theorem pei_xfc {c f : Str} (hz : Zc cls d oe) (hf : ∃ vs, oe.data = .fields vs) (hcls : cls = .ref (He.ga X.K x.cls)) (T : XfC X.K (He.ga X.K c)) (hno : PySem.W.findIn X.K (.ref (He.ga X.K c)) f = some none)
    (he : PE (X.suite a0 ((a0, oe) :: pn)) (.Name n np) (L2.tVar i)) (hb : attributeBase (.Name n np) f X.env (eval (.Name n np) X.env) = eval (.Name n np) X.env := by rfl) :
    PEmI (X.suite a0 ((a0, oe) :: pn)) E (Kn X.K i a0 x cls d) (.Attribute (.Name n np) f pos) (mXfC c f x) := by
  by_cases h : x.cls = c
  · have e : mXfC c f x = mXf f x := by funext env S; unfold mXfC; rw [if_pos h]
    rw [e]
    exact pei_xf hz hf hcls h T hno he hb
  · refine ⟨fun _ _ _ => False, ⟨fun _ _ _ _ _ _ h => h.elim⟩, fun io σ H env S Q _ er sr h1 => ?_⟩
    unfold mXfC at h1
    rw [if_neg h] at h1
    exact h1
end
theorem fn_m0x {P : Program} {w : World} {K : PySem.W.Frag} {mg : Str → Option Value} {base : Heap} {CX : CXT} {k : Nat} {f : Addr} {fd : FuncData} {ps : List Str} : FnOk P w K mg base CX k f fd ps (spI K fun _ _ => .bad) :=
  ⟨fun vs H Q E ⟨_, _, _, _, _, h⟩ => h.elim, fun A outer s H args us vs Q E _ _ _ _ ⟨_, _, _, _, _, h⟩ => h.elim⟩
/-! ### a short tuple taken often -/
def rRepU (K : PySem.W.Frag) : L2.R2 := fun x y H Q => ∃ l k xs, x = .ref l ∧ y = .int k ∧ SqT K H l xs ∧ xs ≠ [] ∧ 2 ≤ k ∧ k ≤ 100000 ∧ xs.length ≤ 10 ∧ ∀ p, H p = none → Q (.ref p) (upd H p (.tup (List.replicate k.toNat xs).flatten))
section
variable {X : Cx} {E : XK}
theorem op_repU : OpR X (binaryOp .Mult) (rRepU X.K) := by
  rintro pins s σ H x y v u Q I rx ry ⟨l, k, xs, rfl, rfl, hT, hne, k2, k9, hx, q⟩
  cases rx
  obtain ⟨tk, rfl⟩ := ry
  obtain ⟨its, rv, ⟨⟨oc, od, oda, osl⟩, ho, e1, n, e2⟩, _⟩ := I.tuple hT
  dsimp only at e1 e2
  subst e1 e2
  have hl : its.length = xs.length := rv.length.symm
  have hpos : 0 < its.length := by rw [hl]; exact List.length_pos_iff.mpr hne
  have prod : k.toNat * xs.length ≤ 1000000 := Nat.le_trans (Nat.mul_le_mul (show k.toNat ≤ 100000 by omega) hx) (by decide)
  have prodI : ((its.toArray.size : Nat) : Int) * k ≤ 1000000 := by
    have e : k = ((k.toNat : Nat) : Int) := by omega
    have sz : its.toArray.size = xs.length := by rw [List.size_toArray, hl]
    rw [sz, e]
    have : ((xs.length : Nat) : Int) * ((k.toNat : Nat) : Int) = ((k.toNat * xs.length : Nat) : Int) := by rw [Int.natCast_mul, Int.mul_comm]
    rw [this]
    omega
  have flat : (List.replicate k.toNat its).flatten.length ≤ sizeLine := by
    rw [PyProof.Rows.lm_len_rep_flat, hl, sizeLine_eq]
    omega
  have ne : its.toArray.isEmpty = false := by
    cases its with
    | nil => cases hpos
    | cons a b => rfl
  have g0 : (decide (k < -(2 ^ 63)) || decide (k ≥ 2 ^ 63)) = false := by rw [decide_eq_false (by omega), decide_eq_false (by omega)] <;> rfl
  have g1 : (its.toArray.isEmpty || k == 1) = false := by rw [ne, Bool.false_or]; exact beq_eq_false_iff_ne.mpr (by omega)
  have g2 : (decide (k ≤ 0) || its.toArray.isEmpty) = false := by rw [ne, Bool.or_false]; exact decide_eq_false (by omega)
  have g4 : Builtin.Tuple.tupleTooMany (((its.toArray.size : Nat) : Int) * k) = false := by
    unfold Builtin.Tuple.tupleTooMany
    rw [sizeLine_eq]
    exact decide_eq_false (by omega)
  have mul := tuple_mulW l its.toArray n od osl k tk g0 g1 g2 (by omega) g4 (by rw [size_rep, List.size_toArray]; exact flat)
  refine wpAny_binaryOp_repeat_ref (T := "tuple") (U := "int") (by decide) ⟨_, ho, rfl⟩ (fun s' => typeIs_int s' k tk) noFill_tuple_mul F.fills_int_mul F.slot_int_rmul repeat_tuple F.slot_int_index.lookup
    (call_meets F.slot_int_rmul (typeIs_int s k tk) F.entry_int_rmul (F.args_int_rmul_2 _ _) (int_rmul_tuple k tk l its.toArray n od osl) ⟨ho, rfl, ⟨_, ho, rfl⟩, call_meets F.slot_tuple_mul ⟨_, ho, rfl⟩ F.entry_tuple_mul (F.args_tuple_mul_2 _ _) mul ⟨ho, ?_⟩⟩)
  rw [size_rep]
  refine ⟨.ref s.heap.objs.size, _, I.laid (t' := s.toks) (o := .tup (List.replicate k.toNat xs).flatten) (fun b ob z => Heap.get?_push_of_some _ z) (Nat.le_refl _) ?_, rfl, q _ (I.hok.fresh (Nat.le_refl _))⟩
  exact ⟨by rw [PyProof.Rows.lm_len_rep_flat, sizeLine_eq]; omega, _, rv.rep k.toNat, IsTup.new _ _⟩
def gTimesU (x y : Val) : M Val := fun S => match x, y with
  | .tup xs, .int k => if 2 ≤ k ∧ k ≤ 100000 ∧ 1 ≤ xs.length ∧ xs.length ≤ 10 then .ok (.tup (List.replicate k.toNat xs).flatten) S else .bad
  | _, _ => .bad
theorem opm_timesU : OpM X E (binaryOp .Mult) gTimesU := by
  refine ⟨_, op_repU, fun io H S x y v w Q s rx ry h => ?_⟩
  unfold gTimesU at h
  split at h
  · rename_i xs k
    obtain ⟨p, vs, rfl, hT, kk⟩ := rx
    cases (show w = .int k from ry)
    by_cases hz : 2 ≤ k ∧ k ≤ 100000 ∧ 1 ≤ xs.length ∧ xs.length ≤ 10
    · rw [if_pos hz] at h
      have hl := kk.length
      refine ⟨p, k, vs, rfl, rfl, hT, fun e => ?_, hz.1, hz.2.1, by rw [hl]; exact hz.2.2.2, fun t ht => ?_⟩
      · rw [e] at hl
        have := hz.2.2.1
        rw [← hl] at this
        exact absurd this (by decide)
      · exact fin_ok h (Le.new ht) (s.new ht) ⟨t, _, rfl, .inl (.inl upd_same), (VRs.mono (Le.new ht) _ _ kk).rep _⟩
    · rw [if_neg hz] at h; exact h.elim
  · exact h.elim
end
end Mx

set_option linter.all false
set_option maxRecDepth 100000
set_option maxHeartbeats 4000000
namespace Mx
open PySem PySem.Spec PyProof.Rows L2
/-! ### written dicts with tuples of whole numbers and None for keys -/
/-- a key's parts: numbers and None -/
def nkV : Val → Option NestedKey
  | .non => some .none
  | .int i => some (.num i)
  | _ => none
def nkVs : List Val → Option (List NestedKey)
  | [] => some []
  | x :: xs => match nkV x, nkVs xs with
    | some k, some ks => some (k :: ks)
    | _, _ => none
def nkH1 : NestedKey → Int
  | .none => reduceHash 0xFCA86420
  | .num i => hashInt i
  | _ => 0
def nkOk : NestedKey → Bool
  | .none => true
  | .num _ => true
  | _ => false
def nkH (ks : List NestedKey) : Int := reduceHash (Builtin.Tuple.tupleHashOf (ks.map nkH1))
theorem nkH_ok (w : World) {ks : List NestedKey} (h : ks.all nkOk = true) : (NestedKey.tup ks).hash w = nkH ks := by
  have e : ∀ ks : List NestedKey, ks.all nkOk = true → NestedKey.hashes w ks = ks.map nkH1 := by
    intro ks
    induction ks with
    | nil => intro _; rfl
    | cons k ks ih =>
      intro h
      rw [List.all_cons, Bool.and_eq_true] at h
      rw [NestedKey.hashes, List.map_cons, ih h.2]
      congr 1
      cases k with
      | none => rfl
      | num i => rfl
      | text x => exact absurd h.1 (by simp [nkOk])
      | tup l => exact absurd h.1 (by simp [nkOk])
  rw [NestedKey.hash, e ks h]
  rfl
def nkB1 : NestedKey → Value → Bool
  | .none, .none => true
  | .num i, .int j _ => decide (i = j)
  | _, _ => false
def nkBs : List NestedKey → List Value → Bool
  | [], [] => true
  | k :: ks, v :: vs => nkB1 k v && nkBs ks vs
  | _, _ => false
theorem nkBs_ok {h : Heap} : ∀ {ks : List NestedKey} {vs : List Value}, nkBs ks vs = true → NestedAll h ks vs ∧ ks.all nkOk = true
  | [], [], _ => ⟨.nil, rfl⟩
  | [], _ :: _, e => by cases e
  | _ :: _, [], e => by cases e
  | k :: ks, v :: vs, e => by
    rw [nkBs, Bool.and_eq_true] at e
    obtain ⟨a, b⟩ := nkBs_ok (h := h) e.2
    have : NestedIs h k v ∧ nkOk k = true := by
      have e1 := e.1
      unfold nkB1 at e1
      split at e1
      · exact ⟨.none, rfl⟩
      · rename_i i j t
        rw [decide_eq_true_eq] at e1
        subst e1
        exact ⟨.int i t, rfl⟩
      · cases e1
    exact ⟨.cons this.1 a, by rw [List.all_cons, this.2, b]; rfl⟩
theorem nk_depth : ∀ {ks : List NestedKey}, ks.all nkOk = true → NestedKey.depthAll ks = 0
  | [], _ => rfl
  | k :: ks, h => by
    rw [List.all_cons, Bool.and_eq_true] at h
    rw [NestedKey.depthAll, nk_depth h.2]
    cases k with
    | none => rfl
    | num i => rfl
    | text x => exact absurd h.1 (by simp [nkOk])
    | tup l => exact absurd h.1 (by simp [nkOk])
/-- an entry of such a dict -/
def entB (K : PySem.W.Frag) (q : List NestedKey × Val) (e : DictEntry) : Bool := decide (e.hash = nkH q.1) && (valB K q.2 e.val && match e.key with
  | .ref a => (match K.lookup a with
    | some ⟨.type c, _, .seq its _, _⟩ => decide (c = "tuple") && nkBs q.1 its.toList
    | _ => false)
  | _ => false)
def entsB (K : PySem.W.Frag) : List (List NestedKey × Val) → List DictEntry → Bool
  | [], [] => true
  | q :: qs, e :: es => entB K q e && entsB K qs es
  | _, _ => false
def dictNB (x : Str) (kvs : List (List NestedKey × Val)) (K : PySem.W.Frag) : Bool := (match K.lookup (He.ga K x) with
  | some ⟨.type c, none, .dict es _, sl⟩ => decide (c = "dict") && (sl.isEmpty && entsB K kvs es.toList)
  | _ => false) && (!(He.ga K x == sysModules) && decide ((kvs.map (·.1)).Nodup))
/-- the dict x of the module holds just these -/
structure KDN (K : PySem.W.Frag) (w : World) (mg : Str → Option Value) (x : Str) (kvs : List (List NestedKey × Val)) : Prop where
  ex : ∃ (d : Addr) (es : Array DictEntry) (n : Nat) (xs : List (NestedKey × Addr × Value)), mg x = some (.ref d) ∧ K.lookup d = some ⟨.type "dict", none, .dict es n, #[]⟩ ∧ es.toList = xs.map (fun q => ⟨q.1.hash w, .ref q.2.1, q.2.2⟩) ∧
    (∀ h, K.In h → ∀ q ∈ xs, NestedIs h q.1 (.ref q.2.1) ∧ q.1.depth ≤ 8) ∧ (xs.map (·.1)).Nodup ∧ ∀ ks y, kvs.lookup ks = some y → ∃ (a : Addr) (u : Value) (v : V), atKey xs (.tup ks) = some (a, u) ∧ RelV v u ∧ ∀ io H, VR K io H y v
theorem ents_ok {K : PySem.W.Frag} {w : World} : ∀ {kvs : List (List NestedKey × Val)} {es : List DictEntry}, entsB K kvs es = true → ∃ xs : List (NestedKey × Addr × Value), es = xs.map (fun q => (⟨q.1.hash w, .ref q.2.1, q.2.2⟩ : DictEntry)) ∧
    xs.map (·.1) = kvs.map (fun q => NestedKey.tup q.1) ∧ (∀ h, K.In h → ∀ q ∈ xs, NestedIs h q.1 (.ref q.2.1) ∧ q.1.depth ≤ 8) ∧ ∀ ks y, kvs.lookup ks = some y → ∃ (a : Addr) (u : Value) (v : V), atKey xs (.tup ks) = some (a, u) ∧ RelV v u ∧ ∀ io H, VR K io H y v
  | [], [], _ => ⟨[], rfl, rfl, fun _ _ _ h => (by cases h), fun _ _ h => (by cases h)⟩
  | [], _ :: _, h => by cases h
  | _ :: _, [], h => by cases h
  | (ks, y) :: kvs, e :: es, h => by
    rw [entsB, Bool.and_eq_true] at h
    obtain ⟨xs, h1, h2, h3, h4⟩ := ents_ok (w := w) h.2
    have he := h.1
    unfold entB at he
    rw [Bool.and_eq_true, Bool.and_eq_true, decide_eq_true_eq] at he
    obtain ⟨e1, e2, e3⟩ := he
    obtain ⟨eh, ek, ev⟩ := e
    dsimp only at e1 e2 e3
    split at e3
    · rename_i a
      split at e3
      · rename_i c dd its n sl hk
        rw [Bool.and_eq_true, decide_eq_true_eq] at e3
        obtain ⟨rfl, e3⟩ := e3
        obtain ⟨v, r1, r2⟩ := valB_ok y ev e2
        obtain ⟨_, ok⟩ := nkBs_ok (h := default) e3
        refine ⟨(.tup ks, a, ev) :: xs, ?_, ?_, fun hp hin q hq => ?_, fun ks' y' hl => ?_⟩
        · rw [List.map_cons, h1, e1, ← nkH_ok w ok]
        · rw [List.map_cons, List.map_cons, h2]
        · rcases List.mem_cons.mp hq with rfl | hq
          · obtain ⟨na, _⟩ := nkBs_ok (h := hp) e3
            refine ⟨.tup (hin a _ hk) rfl rfl na, ?_⟩
            rw [NestedKey.depth, nk_depth ok]
            decide
          · exact h3 hp hin q hq
        · rw [List.lookup_cons] at hl
          cases hb : ks' == ks with
          | true =>
            rw [hb] at hl
            cases hl
            rw [beq_iff_eq.mp hb]
            refine ⟨a, ev, v, ?_, r1, r2⟩
            unfold atKey
            rw [List.find?_cons]
            simp
          | false =>
            rw [hb] at hl
            obtain ⟨a', u, v', g1, g2, g3⟩ := h4 ks' y' hl
            refine ⟨a', u, v', ?_, g2, g3⟩
            unfold atKey at g1 ⊢
            rw [List.find?_cons]
            have hne : ¬ (NestedKey.tup ks = NestedKey.tup ks') := fun z => by
              injection z with z
              rw [z] at hb
              simp at hb
            simp only [decide_eq_false hne]
            exact g1
      · cases e3
    · cases e3
theorem kdn_of {K : PySem.W.Frag} {w : World} {mg : Str → Option Value} {x : Str} {kvs : List (List NestedKey × Val)} (hm : mg x = some (.ref (He.ga K x))) (hv : dictNB x kvs K = true) : KDN K w mg x kvs := by
  unfold dictNB at hv
  rw [Bool.and_eq_true, Bool.and_eq_true, decide_eq_true_eq] at hv
  obtain ⟨h0, _, hn⟩ := hv
  split at h0
  · rename_i c es n sl hk
    rw [Bool.and_eq_true, Bool.and_eq_true, decide_eq_true_eq] at h0
    obtain ⟨rfl, hs, he⟩ := h0
    have hs : sl = #[] := by
      obtain ⟨l⟩ := sl
      cases l with
      | nil => rfl
      | cons a b => simp at hs
    subst hs
    obtain ⟨xs, e1, e2, e3, e4⟩ := ents_ok (w := w) he
    refine ⟨_, es, n, xs, hm, hk, e1, e3, ?_, e4⟩
    rw [e2]
    have : kvs.map (fun q => NestedKey.tup q.1) = (kvs.map (·.1)).map NestedKey.tup := by rw [List.map_map]; rfl
    rw [this]
    exact hn.map NestedKey.tup fun a b h1 h2 => h1 (by injection h2)
  · cases h0
/-- d[(..)] -/
def mGetN (kvs : List (List NestedKey × Val)) (a : Ev → M Val) : Ev → M Val := fun env S => (a env S).bind fun x S1 => match x with
  | .tup xs => (match (nkVs xs).bind fun ks => kvs.lookup ks with | some v => .ok v S1 | none => .bad)
  | _ => .bad
theorem nkVs_all {K : PySem.W.Frag} {io : List Addr} {H : Hp} {h : Heap} : ∀ {xs : List Val} {vs : List V} {us : List Value} {ks : List NestedKey}, nkVs xs = some ks → VRs K io H xs vs → Vals vs us → NestedAll h ks us ∧ ks.all nkOk = true
  | [], vs, us, ks, e, r, rv => by
    cases e
    cases (show vs = [] from r)
    cases rv
    exact ⟨.nil, rfl⟩
  | x :: xs, vs, us, ks, e, ⟨v, ws, ev, r1, r2⟩, rv => by
    subst ev
    rw [nkVs] at e
    cases rv with
    | cons ru rr =>
      rename_i u us
      split at e
      · rename_i k ks' e1 e2
        cases e
        obtain ⟨a, b⟩ := nkVs_all (h := h) e2 r2 rr
        cases x with
        | non =>
          cases e1
          cases (show v = .non from r1)
          cases (show u = .none from ru)
          exact ⟨.cons .none a, by rw [List.all_cons, b]; rfl⟩
        | int i =>
          cases e1
          cases (show v = .int i from r1)
          obtain ⟨t, e3⟩ := ru
          subst e3
          exact ⟨.cons (.int i t) a, by rw [List.all_cons, b]; rfl⟩
        | _ => cases e1
      · cases e
section
variable {X : Cx} {E : XK} {a : Expr} {x : Str} {pos p : Pos} {ma : Ev → M Val} {kvs : List (List NestedKey × Val)}
theorem ix_kn {d : Addr} {es : Array DictEntry} {n : Nat} {xs : List (NestedKey × Addr × Value)} (hu : X.A.units + 66 < cLine) (hk : X.K.lookup d = some ⟨.type "dict", none, .dict es n, #[]⟩) (he : es.toList = xs.map (fun q => (⟨q.1.hash X.w, .ref q.2.1, q.2.2⟩ : DictEntry)))
    (hi : ∀ h, X.K.In h → ∀ q ∈ xs, NestedIs h q.1 (.ref q.2.1) ∧ q.1.depth ≤ 8) (hn : (xs.map (·.1)).Nodup) :
    IxR X (fun x y H Q => ∃ (q : Addr) (vs : List V) (io : List Addr) (ys : List Val) (ks : List NestedKey) (b : Addr) (u : Value) (v : V), x = .ref d ∧ y = .ref q ∧ SqT X.K H q vs ∧ VRs X.K io H ys vs ∧ nkVs ys = some ks ∧ atKey xs (.tup ks) = some (b, u) ∧ RelV v u ∧ Q v H) := by
  intro value slice pins s σ H x y v u Q I rx ry h hs
  obtain ⟨q, vs, io, ys, ks, b, u0, v0, rfl, rfl, hT, hr, hks, hat, rel, hq⟩ := h
  cases rx
  cases ry
  have hin := I.kIn
  have hm : s.heap.DictOfH (nestedKind X.prog X.w) d xs := ⟨_, es, n, hin _ _ hk, ⟨rfl, rfl, rfl⟩, rfl, he, hi _ hin, hn⟩
  obtain ⟨its, rv, ⟨⟨oc, od, oda, osl⟩, ho, e1, m, e2⟩, _⟩ := I.tuple hT
  dsimp only at e1 e2
  subst e1 e2
  obtain ⟨na, ok⟩ := nkVs_all (h := s.heap) hks hr rv
  have hkey : (nestedKind X.prog X.w).is s.heap (.tup ks) q := ⟨.tup ho rfl rfl na, by rw [NestedKey.depth, nk_depth ok]; decide⟩
  refine tail_any hm.typeIs PySem.F.slot_dict_getitem.lookup (wpAny_getItem_heap (knd := nestedKind X.prog X.w) ?_ hkey hm hat ?_) hs
  · show X.A.in1.units + 8 < cLine
    have : X.A.in1.units ≤ X.A.units + 1 := by first | exact Nat.le_refl _ | (simp [Around.in1]) | decide
    omega
  · exact ⟨v0, H, I.tok _, rel, hq⟩
theorem pem_getN (hu : X.A.units + 66 < cLine) (D : KDN X.K X.w X.mg x kvs) (ha : PEm X E a ma) (hs : PlainIx a := by exact fun _ _ => rfl) (hg : Gl X x := by rfl) (hd : (x == ("__debug__" : Str)) = false := by decide) : PEm X E (.Subscript (.Name x p) a pos) (mGetN kvs ma) := by
  obtain ⟨ta, pa, qa⟩ := ha.ex
  obtain ⟨d, es, n, xs, e1, e2, e3, e4, e5, e6⟩ := D.ex
  refine ⟨_, pe_ix (ix_kn hu e2 e3 e4 e5) (pe_glob hg e1 (v := .ref d) rfl hd) pa hs, fun io σ H env S Q er sr h => ?_⟩
  refine qa io σ H env S _ er sr (fin_bind h fun y S1 io1 H1 v _ l1 s1 r1 h1 => ?_)
  cases y with
  | tup ys =>
    obtain ⟨q, vs, rfl, hT, kk⟩ := r1
    cases ek : nkVs ys with
    | none => simp only [ek, Option.bind_none] at h1; exact h1.elim
    | some ks =>
      cases el : kvs.lookup ks with
      | none => simp only [ek, Option.bind_some, el] at h1; exact h1.elim
      | some y =>
        simp only [ek, Option.bind_some, el] at h1
        obtain ⟨b, u, v, g1, g2, g3⟩ := e6 ks y el
        exact ⟨q, vs, io1, ys, ks, b, u, v, rfl, rfl, hT, kk, ek, g1, g2, fin_here h1 s1 (g3 io1 H1)⟩
  | _ => exact h1.elim
end
end Mx

set_option linter.all false
set_option maxRecDepth 100000
set_option maxHeartbeats 4000000
namespace Mx
open PySem PySem.Spec PyProof.Rows L2
/-! ### an own exception without an __init__ of its own, without arguments -/
theorem pmk_own0 {X : Cx} {C : Addr} {bmB : List Value} {B newId initId : String} {x : Str} {p pos : Pos} (F : ExcBaseFacts B newId initId bmB) (q : PySem.W.excIn X.K C bmB newId = true) (gC : X.mg x = some (.ref C)) (kC : PySem.W.keepIn X.K (.ref C) = true) (r : Raises X (.ref C)) (hg : Gl X x)
    (hdb : (x == ("__debug__" : Str)) = false := by decide) : PMk X (.Call (.Name x p) [] [] pos) fun _ H Q => Q (.ref C) none H := by
  intro pins s σ H Q I h
  obtain ⟨bm, N, nm, qn, bs, hdct, sn, sub, ab, col, dd, k0, k1, k2, k3, k5, mN, hC, hN, hni, T⟩ := exc_obj I.kIn q
  have h1 : wpAny (model X.prog X.w) X.A (call (.ref C) []) (MkP X pins σ Q) X.xe s := wpAny_call_exc_subT F T hC hN hni (fun h' e hm => mk_of I hm r h (HOk.gone I.hok hm.new)) (Nat.zero_le _)
  exact wpAny_Call_Name_kw (ld_glob I hg gC (PySem.W.callWith_K0 I.kIn kC h1) hdb)
structure ExO (K : PySem.W.Frag) (mg : Str → Option Value) (c : Str) : Prop where
  q : PySem.W.excIn K (He.ga K c) [.type "ValueError", .type "Exception", .type "BaseException", .type "object"] "ValueError.__new__" = true
  g : mg c = some (.ref (He.ga K c))
  k : PySem.W.keepIn K (.ref (He.ga K c)) = true
  b : PySem.W.subIn K (.ref (He.ga K c)) (.type "BaseException") = some true
  t : PySem.W.typeIn K (.ref (He.ga K c)) = some (.type "type")
def sRaise0 (c : Str) : SM := fun _ S => .err ⟨c, none⟩ S
theorem psm_raise0 {X : Cx} {E : XK} {c : Str} {p pos pos2 : Pos} (hc : X.calm = true) (tk : L2.Takes X (fun cls d _ H => E cls d H)) (x : ExO X.K X.mg c) (hg : Gl X c := by rfl) (hdb : (c == ("__debug__" : Str)) = false := by decide) :
    PSm X E (.Raise (some (.Call (.Name c p) [] [] pos)) none pos2) (sRaise0 c) := by
  refine ⟨_, L2.ps_raise hc tk (pmk_own0 PySem.F.excBase_ValueError x.q x.g x.k (raises_own x.b x.t) hg hdb), fun io σ H env S D er sr h => ?_⟩
  exact h io H _ _ Le.refl sr ⟨rfl, rfl⟩
def exoB (K : PySem.W.Frag) (c : Str) : Bool := PySem.W.excIn K (He.ga K c) [.type "ValueError", .type "Exception", .type "BaseException", .type "object"] "ValueError.__new__" && (PySem.W.keepIn K (.ref (He.ga K c)) && (decide (PySem.W.subIn K (.ref (He.ga K c)) (.type "BaseException") = some true) && decide (PySem.W.typeIn K (.ref (He.ga K c)) = some (.type "type"))))
theorem exoB_ok {K : PySem.W.Frag} {mg : Str → Option Value} {c : Str} (h : exoB K c = true) (g : mg c = some (.ref (He.ga K c))) : ExO K mg c := by
  unfold exoB at h
  simp only [Bool.and_eq_true, decide_eq_true_eq] at h
  exact ⟨h.1, g, h.2.1, h.2.2.1, h.2.2.2⟩
/-! ### if, within a clause -/
section
variable {X : Cx} {E : XK} {i : Nat} {a0 : Addr} {x : Exn} {cls : Value} {d : Option Addr} {e : Expr} {me : Ev → M Val} {st : List Stmt} {m : SM} {pos : Pos}
theorem psi_nil {I : List Addr → Hp → L2.St → Prop} : PSmI X E I [] sNx := ⟨_, pss_nil, fun io σ H env S D _ er sr h => h io H σ Le.refl sr er⟩
theorem psi_if (he : PEmI X E (Kn X.K i a0 x cls d) e me) (hb : PSmI X E (Kn X.K i a0 x cls d) st m) (hw : ∀ whole, isTrue e X.env whole = (do let v ← whole; standAt e.pos; holding [v] (truthy v)) := by intro _; rfl) :
    PSmI X E (Kn X.K i a0 x cls d) [.If e st [] pos] (sIf (mTru me) m sNx) := by
  obtain ⟨t, p, q⟩ := he.ex
  obtain ⟨t2, p2, q2⟩ := hb.ex
  refine ⟨_, pss_one (ps_if (pt_truth p hw) p2 pss_nil), fun io σ H env S D hI er sr h => ?_⟩
  have h : FinS X.K E io H D ((me env S).bind fun y S1 => (truth y S1).bind fun k S2 => if k = true then m env S2 else sNx env S2) := by
    have e : sIf (mTru me) m sNx env S = (me env S).bind fun y S1 => (truth y S1).bind fun k S2 => if k = true then m env S2 else sNx env S2 := by
      show ((me env S).bind _).bind _ = _
      cases me env S <;> rfl
    rw [← e]
    exact h
  refine q io σ H env S _ hI er sr (fis_bind h fun y S1 io1 H1 u _ l1 s1 r1 h1 => ?_)
  refine tru_of (E := E) (Q := fun (b : Bool) H1 => if b = true then t2 D σ H1 else tNext D σ H1) s1 r1 ?_
  refine fis_bind h1 fun k S2 io2 H2 k' _ l2 s2 r2 h2 => ?_
  cases (show k = k' from r2)
  cases k with
  | true => exact iteT (q2 io2 σ H2 env S2 D ⟨hI.1, xr_mono sr (l1.trans l2) hI.2⟩ ((er.mono l1).mono l2) s2 h2)
  | false => exact iteF (h2 io2 H2 σ Le.refl s2 ((er.mono l1).mono l2))
end
/-! ### xs.extend(ys) -/
section
variable {X : Cx} {E : XK}
def gExtend (n : Nat) (x : Val) : M Val := fun S => match x with
  | .loc m => (match S[n]?, S[m]? with
    | some (.lst xs), some (.lst ys) => if xs.length + ys.length ≤ lim then .ok .non (S.set n (.lst (xs ++ ys))) else .bad
    | _, _ => .bad)
  | _ => .bad
theorem mem_extend : MeM X E "list.extend" gExtend := by
  refine ⟨_, mt_extend, fun io H S n a x w Q s hi r h => ?_⟩
  unfold gExtend at h
  cases x with
  | loc m =>
    obtain ⟨b, hb, rfl⟩ := r
    simp only at h
    cases eo : S[n]? with
    | none => simp only [eo] at h; exact h.elim
    | some ob =>
      cases ob with
      | lst xs =>
        cases eo2 : S[m]? with
        | none => simp only [eo, eo2] at h; exact h.elim
        | some ob2 =>
          cases ob2 with
          | lst ys =>
            simp only [eo, eo2] at h
            obtain ⟨vs, hv, kk⟩ := s.is eo hi
            obtain ⟨ws, hw, kw⟩ := s.is eo2 hb
            by_cases hz : xs.length + ys.length ≤ lim
            · rw [if_pos hz] at h
              have L : Le X.K io H io (upd H a (.lst (vs ++ ws))) := Le.mut hv hi
              exact ⟨a, b, vs, ws, rfl, rfl, hv, hw, by rw [kk.length, kw.length]; exact lim_le hz, fin_ok h L (s.upd hi eo hv (kk.app kw)) rfl⟩
            · rw [if_neg hz] at h; exact h.elim
          | _ => simp only [eo, eo2] at h; exact h.elim
      | _ => simp only [eo] at h; exact h.elim
  | _ => exact h.elim
end
/-! ### defs as values -/
def find1 (A : Nat → Addr) (a : Addr) (ks : List Nat) : Option Nat := ks.find? fun k => decide (A k = a)
def mCallE (A : Nat → Addr) (ks : List Nat) (F : Nat → List Val → M Val) (i : Nat) (m : Ev → M (List Val)) : Ev → M Val := fun env S => match env[i]? with
  | some (some (.ext a)) => (match find1 A a ks with
    | some k => (m env S).bind fun xs S1 => noE (F k) xs S1
    | none => .bad)
  | _ => .bad
theorem held_of {P : Program} {w : World} {K : PySem.W.Frag} {mg : Str → Option Value} {base : Heap} {k : Nat} {x : Str} {g : List Val → M Val} {a : Addr} (c : Fd P w K mg base CX0 k x g) (h : mg x = some (.ref a)) : Held P w K mg base k a (spI K g) := by
  obtain ⟨f, fd, ps, F, hm, hk, hb⟩ := c.ex
  have e : f = a := by
    rw [hm] at h
    cases h
    rfl
  subst e
  exact ⟨fd, ps, F, hk, hb⟩
section
variable {X : Cx} {E : XK} {e : Expr} {es : List Expr} {mr : Ev → M (List Val)} {x : Str} {p pos : Pos}
theorem pem_callE {A : Nat → Addr} {ks : List Nat} {F : Nat → List Val → M Val} {i lv : Nat} (hF : ∀ k ∈ ks, Held X.prog X.w X.K X.mg X.base lv (A k) (spI X.K (F k))) (hr : Room lv X.A) (ha : PAm X E (e :: es) mr) (hN : X.N[i]? = some x := by rfl) (hv : Vis X.env.scope x := by first | exact Or.inl rfl | exact Or.inr (Or.inl rfl) | exact Or.inr (Or.inr rfl))
    (hd : (x == ("__debug__" : Str)) = false := by decide) (hcd : (x == ("__classdict__" : Str)) = false := by decide) (he : starEach (e :: es) X.env = (false, eval e X.env) :: starEach es X.env := by rfl) (hpl : (backTo pos (starEach es X.env)).any (·.1) = false := by rfl) :
    PEm X E (.Call (.Name x p) (e :: es) [] pos) (mCallE A ks F i mr) := by
  obtain ⟨t, pt, qt⟩ := ha.ex
  have hS : ∀ f sp, (fun f => (find1 A f ks).map fun k => spI X.K (F k)) f = some sp → Held X.prog X.w X.K X.mg X.base lv f sp := fun f sp h => by
    simp only [Option.map_eq_some_iff] at h
    obtain ⟨k, h1, h2⟩ := h
    have hm := List.mem_of_find?_eq_some h1
    have hp := List.find?_some h1
    simp only [decide_eq_true_eq] at hp
    rw [← h2, ← hp]
    exact hF k hm
  refine ⟨_, pe_callA hS hr hN hv pt hd hcd he hpl, fun io σ H env S Q er sr h => ?_⟩
  unfold mCallE at h
  cases e1 : env[i]? with
  | none => rw [e1] at h; exact h.elim
  | some o =>
    rw [e1] at h
    cases o with
    | none => exact h.elim
    | some v =>
      cases v with
      | ext a =>
        obtain ⟨v, e2, r⟩ := er.get i _ e1
        cases (show v = .ref a from r)
        simp only at h
        cases ef : find1 A a ks with
        | none => simp only [ef] at h; exact h.elim
        | some k =>
          simp only [ef] at h
          refine ⟨a, spI X.K (F k), e2, by simp only [ef]; rfl, ?_⟩
          refine qt io σ H env S _ er sr (fin_bind h fun xs S1 io1 H1 vs _ l1 s1 r1 h1 => ?_)
          refine ⟨io1, S1, xs, s1, r1, ?_⟩
          unfold noE at h1
          cases eg : F k xs S1 with
          | ok y S2 => rw [eg] at h1; exact h1
          | err y S2 => rw [eg] at h1; exact h1.elim
          | bad => rw [eg] at h1; exact h1.elim
      | _ => exact h.elim
end
theorem hks_nil {P : Nat → Prop} : ∀ k ∈ ([] : List Nat), P k := fun _ h => by cases h
theorem hks_cons {P : Nat → Prop} {k : Nat} {ks : List Nat} (h : P k) (r : ∀ k ∈ ks, P k) : ∀ j ∈ k :: ks, P j := fun j hj => by
  rcases List.mem_cons.mp hj with rfl | hj
  · exact h
  · exact r j hj
theorem find1_at {A : Nat → Addr} {ks : List Nat} (inj : ∀ j ∈ ks, ∀ k ∈ ks, A j = A k → j = k) {j : Nat} (hj : j ∈ ks) : find1 A (A j) ks = some j := by
  unfold find1
  cases e : ks.find? fun k => decide (A k = A j) with
  | none =>
    have := List.find?_eq_none.mp e j hj
    simp at this
  | some k =>
    have hm := List.mem_of_find?_eq_some e
    have hp := List.find?_some e
    simp only [decide_eq_true_eq] at hp
    rw [inj k hm j hj hp]
theorem inj_nodup {α β : Type} {f : α → β} : ∀ {l : List α}, (l.map f).Nodup → ∀ j ∈ l, ∀ k ∈ l, f j = f k → j = k
  | [], _, j, hj, _, _, _ => by cases hj
  | x :: l, h, j, hj, k, hk, e => by
    rw [List.map_cons, List.nodup_cons] at h
    rcases List.mem_cons.mp hj with h1 | h1
    · rcases List.mem_cons.mp hk with h2 | h2
      · rw [h1, h2]
      · exact absurd (List.mem_map.mpr ⟨k, h2, by rw [← e, h1]⟩) h.1
    · rcases List.mem_cons.mp hk with h2 | h2
      · exact absurd (List.mem_map.mpr ⟨j, h1, by rw [e, h2]⟩) h.1
      · exact inj_nodup h.2 j h1 k h2 e
/-! ### a module's tuple of defs -/
def ftV (A : Nat → Addr) (l : List (Option Nat)) : List Val := l.map fun o => match o with | some k => .ext (A k) | none => .non
structure FtK (K : PySem.W.Frag) (mg : Str → Option Value) (x : Str) (vs : List Val) : Prop where
  ex : ∃ w u, mg x = some u ∧ RelV w u ∧ ∀ io H, VR K io H (.tup vs) w
theorem pem_ftab {X : Cx} {E : XK} {x : Str} {vs : List Val} {pos : Pos} (h : FtK X.K X.mg x vs) (hg : Gl X x := by rfl) (hd : (x == ("__debug__" : Str)) = false := by decide) : PEm X E (.Name x pos) (mC (.tup vs)) := by
  obtain ⟨w, u, hm, r, q⟩ := h.ex
  exact pem_glob hm r q hg hd
def ftB (K : PySem.W.Frag) (x : Str) (l : List (Option Str)) : Bool := match K.lookup (He.ga K x) with
  | some o => decide (o.cls = .type "tuple") && (match o.data with
    | .seq its _ => decide (its.toList = l.map fun o => match o with | some y => .ref (He.ga K y) | none => .none) && decide (its.size ≤ 1000)
    | _ => false)
  | none => false
theorem ftB_ok {K : PySem.W.Frag} {mg : Str → Option Value} {x : Str} {l : List (Option Str)} {A : Nat → Addr} {ks : List (Option Nat)} (h : ftB K x l = true) (hm : mg x = some (.ref (He.ga K x))) (hl : l.map (fun o => o.map (He.ga K)) = ks.map (fun o => o.map A)) : FtK K mg x (ftV A ks) := by
  unfold ftB at h
  split at h
  · rename_i o ho
    rw [Bool.and_eq_true, decide_eq_true_eq] at h
    obtain ⟨h1, h2⟩ := h
    split at h2
    · rename_i its n hd
      rw [Bool.and_eq_true, decide_eq_true_eq, decide_eq_true_eq] at h2
      obtain ⟨h3, h4⟩ := h2
      have e3 : its.toList = (ks.map (fun o => o.map A)).map fun o => match o with | some a => Value.ref a | none => .none := by
        rw [h3, ← hl, List.map_map]
        refine List.map_congr_left fun o _ => ?_
        cases o <;> rfl
      have hv : Vals ((ks.map (fun o => o.map A)).map fun o => match o with | some a => V.ref a | none => .non) its.toList := by
        rw [e3]
        generalize ks.map (fun o => o.map A) = os
        induction os with
        | nil => exact .nil
        | cons o os ih =>
          refine .cons ?_ ih
          cases o <;> rfl
      refine ⟨.ref (He.ga K x), _, hm, rfl, fun io H => ⟨_, _, rfl, .inr ⟨o, its, n, ho, h1, hd, Nat.le_trans h4 (by decide), hv⟩, ?_⟩⟩
      unfold ftV
      generalize hks : ks = os
      clear hks
      induction os with
      | nil => rfl
      | cons o os ih => cases o <;> exact ⟨_, _, rfl, rfl, ih⟩
    · cases h2
  · cases h
end Mx

set_option linter.all false
set_option maxRecDepth 100000
set_option maxHeartbeats 4000000
namespace Mx
open PySem PySem.Spec PyProof.Rows L2
/-! ### a head that looks at the keys of the module's dicts, too -/
def keysO (o : Obj) : List Addr := match o.data with
  | .dict es _ => es.toList.flatMap fun e => He.refV e.key
  | _ => []
def asK (g : Addr → Option Obj) (n : Nat) : List Addr := (He.asD g n ++ (He.asD g n).flatMap fun a => match g a with
  | some o => keysO o
  | none => []).eraseDups
def obsK (n : Nat) (fa : List He.Fa) (fn : List He.DefD) (ts : List He.Tab) (ex : PySem.W.Frag → Bool) (g : Addr → Option Obj) : He.AlX :=
  (He.obsT fa fn ts (He.frT g (asK g n)), ex (He.frT g (asK g n)))
theorem saysK {n : Nat} {fa : List He.Fa} {fn : List He.DefD} {ts : List He.Tab} {ex : PySem.W.Frag → Bool} {w : World} {s : Shared} (e : obsK n fa fn ts ex s.heap.get? = He.valX fn ts w) : ∃ K : PySem.W.Frag, K.In s.heap ∧ He.SaysX fa fn ts [] ex w s.heap K := by
  refine ⟨He.frT s.heap.get? (asK s.heap.get? n), He.frT_in, ?_⟩
  unfold obsK at e
  have h1 := congrArg Prod.fst e
  have h2 := congrArg Prod.snd e
  exact ⟨h1, h2, fun _ h => (by cases h), fun _ h => (by cases h), fun _ h => (by cases h)⟩
def hookK (n : Nat) (fa : List He.Fa) (fn : List He.DefD) (ts : List He.Tab) (ex : PySem.W.Frag → Bool) : PySem.W.Hook :=
  { α := He.AlX, obs := fun s => obsK n fa fn ts ex s.heap.get?, val := fun w => He.valX fn ts w, says := fun w h => ∃ K : PySem.W.Frag, K.In h ∧ He.SaysX fa fn ts [] ex w h K,
    of := fun _ _ e => saysK e, keeps := (He.hookX n fa fn ts [] ex).keeps }
theorem obsK_eq {n : Nat} {fa : List He.Fa} {fn : List He.DefD} {ts : List He.Tab} {ex : PySem.W.Frag → Bool} {g : Addr → Option Obj} {s : Shared} (h : ∀ a, g a = s.heap.get? a) : obsK n fa fn ts ex g = (hookK n fa fn ts ex).obs s := by
  have e : g = s.heap.get? := funext h
  subst e
  rfl
/-! ### and, not, within a clause's if -/
structure PTmI (X : Cx) (E : XK) (I : List Addr → Hp → L2.St → Prop) (e : Expr) (m : Ev → M Bool) : Prop where
  ex : ∃ t, PT X e t ∧ ∀ io σ H env S Q, I io H σ → ER X.K io H env σ → SR X.K io H S → FinG X.K RB E io H Q (m env S) → t σ H Q
structure PWmI (X : Cx) (E : XK) (I : List Addr → Hp → L2.St → Prop) (e : Expr) (m : Ev → M Bool) : Prop where
  ex : ∃ t, PW X e t ∧ ∀ io σ H env S Q, I io H σ → ER X.K io H env σ → SR X.K io H S → FinG X.K RB E io H Q (m env S) → t σ H Q
section
variable {X : Cx} {E : XK} {i : Nat} {a0 : Addr} {x : Exn} {cls : Value} {d : Option Addr} {a b e : Expr} {me : Ev → M Val} {ta tb mt : Ev → M Bool} {st : List Stmt} {m : SM} {pos : Pos} {rest : List Expr}
theorem pti_tru (ha : PEmI X E (Kn X.K i a0 x cls d) a me) (he : ∀ whole, isTrue a X.env whole = (do let v ← whole; standAt a.pos; holding [v] (truthy v)) := by intro _; rfl) : PTmI X E (Kn X.K i a0 x cls d) a (mTru me) := by
  obtain ⟨t, p, q⟩ := ha.ex
  refine ⟨_, pt_truth p he, fun io σ H env S Q hI er sr h => ?_⟩
  exact q io σ H env S _ hI er sr (fin_bind h fun x S1 io1 H1 v _ l1 s1 r1 h1 => tru_of s1 r1 h1)
theorem pti_not (ha : PTmI X E (Kn X.K i a0 x cls d) a ta) : PTmI X E (Kn X.K i a0 x cls d) (.UnaryOp .Not a pos) (mNot ta) := by
  obtain ⟨tt, pt, qt⟩ := ha.ex
  refine ⟨_, pt_not pt, fun io σ H env S Q hI er sr h => ?_⟩
  refine qt io σ H env S _ hI er sr (fin_bind h fun k S1 io1 H1 k' _ l1 s1 r1 h1 => ?_)
  cases (show k = k' from r1)
  exact fin_here h1 s1 rfl
theorem pwi_and1 (ha : PTmI X E (Kn X.K i a0 x cls d) a ta) : PWmI X E (Kn X.K i a0 x cls d) (.BoolOp .And [a] pos) ta := let ⟨t, p, q⟩ := ha.ex; ⟨t, pw_and1 p, q⟩
theorem pwi_and (ha : PTmI X E (Kn X.K i a0 x cls d) a ta) (hb : PWmI X E (Kn X.K i a0 x cls d) (.BoolOp .And (b :: rest) pos) tb) : PWmI X E (Kn X.K i a0 x cls d) (.BoolOp .And (a :: b :: rest) pos) (mAnd ta tb) := by
  obtain ⟨t1, p1, q1⟩ := ha.ex
  obtain ⟨t2, p2, q2⟩ := hb.ex
  refine ⟨_, pw_and p1 p2, fun io σ H env S Q hI er sr h => ?_⟩
  refine q1 io σ H env S _ hI er sr (fin_bind h fun k S1 io1 H1 k' _ l1 s1 r1 h1 => ?_)
  cases (show k = k' from r1)
  cases k with
  | true => exact iteT (q2 io1 σ H1 env S1 Q ⟨hI.1, xr_mono sr l1 hI.2⟩ (er.mono l1) s1 h1)
  | false => exact iteF (fin_here h1 s1 rfl)
theorem pti_w (h : PWmI X E (Kn X.K i a0 x cls d) e ta) : PTmI X E (Kn X.K i a0 x cls d) e ta := let ⟨t, p, q⟩ := h.ex; ⟨t, p.pt, q⟩
theorem psi_ifT (he : PTmI X E (Kn X.K i a0 x cls d) e mt) (hb : PSmI X E (Kn X.K i a0 x cls d) st m) : PSmI X E (Kn X.K i a0 x cls d) [.If e st [] pos] (sIf mt m sNx) := by
  obtain ⟨t, p, q⟩ := he.ex
  obtain ⟨t2, p2, q2⟩ := hb.ex
  refine ⟨_, pss_one (ps_if p p2 pss_nil), fun io σ H env S D hI er sr h => ?_⟩
  refine q io σ H env S _ hI er sr (fis_bind h fun k S1 io1 H1 k' _ l1 s1 r1 h1 => ?_)
  cases (show k = k' from r1)
  cases k with
  | true => exact iteT (q2 io1 σ H1 env S1 D ⟨hI.1, xr_mono sr l1 hI.2⟩ (er.mono l1) s1 h1)
  | false => exact iteF (h1 io1 H1 σ Le.refl s1 (er.mono l1))
end
end Mx

set_option linter.all false
set_option maxRecDepth 100000
set_option maxHeartbeats 4000000
namespace Mx
open PySem PySem.Spec PyProof.Rows L2
/-! ### a dict written out, its keys texts; d.get(k, x) -/
def tK (z : List Nat) : Key := .inr ⟨z.toArray⟩
def mDsp (ks : List (List Nat)) (m : Ev → M (List Val)) : Ev → M Val := fun env S => (m env S).bind fun vs S1 => if vs.length = ks.length then .ok (.loc S1.length) (S1 ++ [.dic ((ks.map tK).zip vs)]) else .bad
theorem Le.dk {K : PySem.W.Frag} {io0 io : List Addr} {B H : Hp} {D : Addr} {ws us : List (Key × V)} (l : Le K io0 B io H) (hD : H D = some (.dK ws)) (hB : B D = none) : Le K io0 B io (L2.upd H D (.dK us)) :=
  ⟨l.ia, fun a xs h => (dk_tu hD).1 a xs (l.tu a xs h), fun a xs h => (dk_tu hD).2 a xs (l.fz a xs h), fun a o h k => ⟨by rw [upd_ne (ne_of_none h hB)]; exact (l.fr a o h k).1, (l.fr a o h k).2⟩⟩
theorem putK_new {kvs : List (Key × V)} {k : Key} {v : V} (h : k ∉ kvs.map (·.1)) : putK kvs k v = kvs ++ [(k, v)] := by
  have ha : (kvs.any fun kv => decide (kv.1 = k)) = false := by
    rw [List.any_eq_false]
    intro p hp e
    exact h (List.mem_map.mpr ⟨p, hp, of_decide_eq_true e⟩)
  unfold putK
  rw [ha]
  rfl
section
variable {X : Cx} {E : XK}
structure PPm (X : Cx) (E : XK) (pos : Pos) (keys : List (Option Expr)) (values : List Expr) (ks : List (List Nat)) (m : Ev → M (List Val)) : Prop where
  ex : ∃ trs, PPs X pos keys values trs ∧ keys.length = ks.length ∧ ∀ io σ H env S (Q : List (V × V) → Hp → Prop), ER X.K io H env σ → SR X.K io H S → FinG X.K (VRs X.K) E io H (fun us H' => Q ((ks.map fun k => kV (tK k)).zip us) H') (m env S) → tPairs trs σ H Q
theorem ppm_nil {pos : Pos} : PPm X E pos [] [] [] mNil := ⟨[], pps_nil, rfl, fun io σ H env S Q er sr h => by
  have h' : FinG X.K (VRs X.K) E io H (fun us H' => Q ((([] : List (List Nat)).map fun k => kV (tK k)).zip us) H') (.ok [] S) := h
  exact h' io H [] Le.refl sr (show VRs X.K io H [] [] from rfl)⟩
theorem ppm_cons {pos : Pos} {e v : Expr} {keys : List (Option Expr)} {values : List Expr} {k : List Nat} {ks : List (List Nat)} {mv : Ev → M Val} {m : Ev → M (List Val)} (hk : PEm X E e (mC (.str k))) (hv : PEm X E v mv) (hr : PPm X E pos keys values ks m) :
    PPm X E pos (some e :: keys) (v :: values) (k :: ks) (mCons mv m) := by
  obtain ⟨tk, pk, qk⟩ := hk.ex
  obtain ⟨tv, pv, qv⟩ := hv.ex
  obtain ⟨trs, pr, hl, qr⟩ := hr.ex
  refine ⟨(tk, tv) :: trs, pps_cons pk pv pr, by rw [List.length_cons, List.length_cons, hl], fun io σ H env S Q er sr h => ?_⟩
  show tk σ H fun x H1 => tv σ H1 fun y H2 => tPairs trs σ H2 fun ps H3 => Q ((x, y) :: ps) H3
  refine qk io σ H env S _ er sr ?_
  intro io1 H1 x l1 s1 r1
  have ex : x = kV (tK k) := vr_key (show asKey (.str k) = some (tK k) from rfl) r1
  refine qv io1 σ H1 env S _ (er.mono l1) s1 (fin_bind (FinG.mono l1 h) fun y S2 io2 H2 w _ l2 s2 r2 h2 => ?_)
  refine qr io2 σ H2 env S2 _ ((er.mono l1).mono l2) s2 (fin_bind h2 fun ys S3 io3 H3 us _ l3 s3 r3 h3 => ?_)
  have := fin_here h3 s3 ⟨w, us, rfl, VR.mono l3 _ _ r2, r3⟩
  rw [ex]
  exact this
theorem merge_nd : ∀ (more kvs : List (Key × V)), ((kvs ++ more).map (·.1)).Nodup → mergeK kvs more = kvs ++ more
  | [], kvs, _ => by rw [List.append_nil]; rfl
  | p :: r, kvs, h => by
    have hp : p.1 ∉ kvs.map (·.1) := fun hm => by
      rw [List.map_append, List.map_cons] at h
      exact (List.nodup_append.mp h).2.2 _ hm _ List.mem_cons_self rfl
    show mergeK (putK kvs p.1 p.2) r = _
    rw [putK_new hp, merge_nd r (kvs ++ [(p.1, p.2)]) (by rw [List.append_assoc]; exact h), List.append_assoc]
    rfl
theorem pem_dsp {pos : Pos} {keys : List (Option Expr)} {values : List Expr} {ks : List (List Nat)} {m : Ev → M (List Val)} (hp : PPm X E pos keys values ks m) (nd : (ks.map tK).Nodup) (hall : keys.all (·.isSome) = true := by rfl) (hl : keys.length = values.length := by rfl) (h0 : keys ≠ [] := by intro h; cases h) (h15 : keys.length ≤ 15 := by decide) : PEm X E (.Dict keys values pos) (mDsp ks m) := by
  obtain ⟨trs, pp, hlen, q⟩ := hp.ex
  refine ⟨_, pe_disp pp hall hl h0 h15, fun io σ H env S Q er sr h => ?_⟩
  intro p hpn
  have np := (fresh Le.refl sr hpn).2
  have l0 : Le X.K io H io (upd H p (.dK [])) := Le.new hpn
  refine q io σ _ env S _ (er.mono l0) (sr.new hpn) (fin_bind (FinG.mono l0 h) fun vs S1 io1 H1 us eo l1 s1 r1 h1 => ?_)
  have fr := l1.fr p (.dK []) upd_same np
  by_cases hv : vs.length = ks.length
  · rw [if_pos hv] at h1
    have hu : us.length = ks.length := by rw [← hv]; exact r1.length
    refine ⟨fr.1, (ks.map tK).zip us, ?_, ?_, ?_⟩
    · clear h1 fr r1 s1 l1 hv
      have : ∀ (ks : List (List Nat)) (us : List V), (ks.map fun k => kV (tK k)).zip us = ((ks.map tK).zip us).map fun kv => (kV kv.1, kv.2) := fun ks => by
        induction ks with
        | nil => intro us; rfl
        | cons k ks ih => intro us; cases us with
          | nil => rfl
          | cons u us => rw [List.map_cons, List.map_cons, List.zip_cons_cons, List.zip_cons_cons, List.map_cons, ih]
      exact this ks us
    · rw [List.length_zip, List.length_map]; omega
    · have hm : mergeK [] ((ks.map tK).zip us) = (ks.map tK).zip us := by
        have hk : (((ks.map tK).zip us).map (·.1)) = ks.map tK := List.map_fst_zip (by rw [List.length_map]; omega)
        have := merge_nd ((ks.map tK).zip us) [] (by rw [List.nil_append, hk]; exact nd)
        rw [List.nil_append] at this
        exact this
      rw [hm]
      have l2 : Le X.K io H io1 (upd H1 p (.dK ((ks.map tK).zip us))) := (l0.trans l1).dk fr.1 hpn
      have r2 : VRs X.K io1 (upd H1 p (.dK ((ks.map tK).zip us))) vs us := (VR.up (dk_tu fr.1).1 (dk_tu fr.1).2).2 _ _ r1
      have h2 : FinG X.K (VR X.K) E io H Q (mDsp ks m env S) := h
      unfold mDsp at h2
      rw [show m env S = _ from eo] at h2
      simp only [Out.bind, if_pos hv] at h2
      have hz : ((ks.map tK).zip vs).map (·.2) = vs := List.map_snd_zip (by rw [List.length_map]; omega)
      have hf : ((ks.map tK).zip vs).map (·.1) = ks.map tK := List.map_fst_zip (by rw [List.length_map]; omega)
      have kv : KVs X.K io1 (upd H1 p (.dK ((ks.map tK).zip us))) ((ks.map tK).zip vs) ((ks.map tK).zip us) := by
        have := KVs.of (K := X.K) (io := io1) (H := upd H1 p (.dK ((ks.map tK).zip us))) (kvs := (ks.map tK).zip vs) (vs := us) (by rw [hz]; exact r2)
        rw [hf] at this
        exact this
      exact newD_fin l2 (s1.dk fr.1 fr.2) ⟨p, rfl, ⟨_, upd_same, kv⟩, hpn, fr.2⟩ h2
  · rw [if_neg hv] at h1
    exact h1.elim
end
/-- d.get(k, x) -/
def mGet2 (o e f : Ev → M Val) : Ev → M Val := fun env S => (o env S).bind fun l S1 => match l with
  | .loc n => (match S1[n]? with
    | some (.dic _) => (e env S1).bind fun x S2 => (f env S2).bind fun d S3 => (match S3[n]?, asKey x with
      | some (.dic kvs), some k => .ok ((getD kvs k).getD d) S3
      | _, _ => .bad)
    | _ => .bad)
  | _ => .bad
section
variable {X : Cx} {E : XK} {o e f : Expr} {mo me mf : Ev → M Val} {apos cpos : Pos}
theorem pem_get2 (hu : X.A.units + 66 < cLine) (ho : PEm X E o mo) (he : PEm X E e me) (hf : PEm X E f mf) (m : M2 X o "get" apos e f cpos := by exact ⟨rfl, by rfl, by rfl, by rfl⟩) : PEm X E (.Call (.Attribute o "get" apos) [e, f] [] cpos) (mGet2 mo me mf) := by
  obtain ⟨to, po, qo⟩ := ho.ex
  obtain ⟨te, pe, qe⟩ := he.ex
  obtain ⟨tf, pf, qf⟩ := hf.ex
  refine ⟨_, pe_dget2 (by omega) po pe pf m, fun io σ H env S Q er sr h => ?_⟩
  refine qo io σ H env S _ er sr (fin_bind h fun l S1 io1 H1 v _ l1 s1 r1 h1 => ?_)
  cases l with
  | loc n =>
    obtain ⟨q, hi, rfl⟩ := r1
    simp only at h1
    cases eo : S1[n]? with
    | none => simp only [eo] at h1; exact h1.elim
    | some ob =>
      cases ob with
      | dic kvs0 =>
        simp only [eo] at h1
        obtain ⟨ws0, hw0, _⟩ := or_dic (s1.is eo hi)
        refine ⟨q, rfl, .inl ⟨_, .inl hw0⟩, ?_⟩
        refine qe io1 σ H1 env S1 _ (er.mono l1) s1 (fin_bind h1 fun y S2 io2 H2 w _ l2 s2 r2 h2 => ?_)
        refine qf io2 σ H2 env S2 _ ((er.mono l1).mono l2) s2 (fin_bind h2 fun z S3 io3 H3 zv _ l3 s3 r3 h3 => ?_)
        cases e2 : S3[n]? with
        | none => simp only [e2] at h3; exact h3.elim
        | some ob2 =>
          cases ek : asKey y with
          | none => simp only [e2, ek] at h3; exact h3.elim
          | some k =>
            cases ob2 with
            | dic kvs =>
              simp only [e2, ek] at h3
              obtain ⟨ws, hw, kk⟩ := or_dic (s3.is e2 (l3.ia n q (l2.ia n q hi)))
              have g := kk.get (k := k)
              rw [vr_key ek r2]
              refine ⟨valV ws k, DGet.k hw, ?_⟩
              cases eg : getD kvs k with
              | none =>
                rw [eg] at g h3
                have g : valV ws k = none := g
                rw [g]
                exact fin_here h3 s3 r3
              | some x =>
                rw [eg] at g h3
                obtain ⟨u, g1, g2⟩ := g
                rw [g1]
                exact fin_here h3 s3 g2
            | _ => simp only [e2, ek] at h3; exact h3.elim
      | _ => simp only [eo] at h1; exact h1.elim
  | _ => exact h1.elim
end
end Mx

set_option linter.all false
set_option maxRecDepth 100000
set_option maxHeartbeats 4000000
namespace Mx
open PySem PySem.Spec PyProof.Rows L2
/-! ### defs that are called while no repr is under way -/
structure FnG (P : Program) (w : World) (K : PySem.W.Frag) (mg : Str → Option Value) (base : Heap) (CX : CXT) (k : Nat) (f : Addr) (fd : FuncData) (ps : List Str) (sp : Sp) : Prop where
  len : ∀ vs H Q E, sp vs H Q E → vs.length = ps.length
  run : ∀ (A : Around) (outer : List Env) (s : Shared) (H : Hp) (args : Args) (us : List Value) (vs : List V) (Q : VK) (E : XK), Room k A → A.guards = some [] → Env0 P w K mg base A outer s H → BindsTo s fd args (ps.zip us) → Vals vs us → sp vs H Q E →
    codeAny (model P w) A (.call (.ref f) args) (CR CX outer P w H s Q E) s
section
variable {P : Program} {w : World} {K : PySem.W.Frag} {mg : Str → Option Value} {base : Heap} {CX : CXT} {k : Nat} {f : Addr} {fd : FuncData} {ps : List Str} {sp : Sp}
/-- a body, read with the knowledge that no repr is under way -/
theorem fnG_of {x qual : Str} {params : Arguments} {body : List Stmt} {scope : Scope} {N : List Str} (F : FunD K x qual params body scope [] [] f fd) (S : FnScope N ps scope) (len : ∀ vs H Q E, sp vs H Q E → vs.length = ps.length)
    (hb : ∀ (cdv : Value) (A : Around) (outer : List Env) (s : Shared) (H : Hp) (vs : List V) (Q : VK) (E : XK), Room k (A.deeper (envOfC qual scope s.heap.objs.size f cdv)) → (A.deeper (envOfC qual scope s.heap.objs.size f cdv)).guards = some [] → sp vs H Q E →
      ∃ t, PSs (cxOf CX P w K mg base N qual scope f cdv A outer s H E) body t ∧ t { nx := fun _ H' => Q .non H', rt := Q } (L2.start N vs) H) : FnG P w K mg base CX (k + 1) f fd ps sp := by
  obtain ⟨oc, od, dV, kV, doc, pm, an, cdv, ct, osl, rfl, lk, hcd, _, _⟩ := F.ex
  refine ⟨len, fun A outer s H args us vs Q E hr hg e0 hbd r hsp => ?_⟩
  have known : ∀ b o, base.get? b = some o → s.heap.get? b = some o := fun b o e => (e0.bs b o e).1
  have KX : K.In s.heap := e0.mod.kin.keeps known
  refine codeAny_call_function hr.depth (KX _ _ lk) rfl S.co S.gen rfl (PySem.W.codeRec_of KX hcd) (hbd _ _ _ _ ?_)
  refine wpAny_newFunctionEnv_cells S.kind (fun y hy => ?_) fun env he s1 x => ?_
  · rcases S.par y.1 (List.of_mem_zip hy).1 with q | q
    · exact .inl q
    · exact .inr ⟨q, PySem.W.cellsFrom_some _ _ _ (.inl q)⟩
  · subst he
    refine ⟨(e0.mod.nolimit.keeps known).keeps x.toInCall.keep, codeAny_func ?_⟩
    obtain ⟨t, ht, hq⟩ := hb cdv A outer s H vs Q E (hr.deeper _) hg hsp
    refine wpAny_mono (ht.run [] s1 (L2.start N vs) H _ (inv_start S hr.hd e0 (len _ _ _ _ hsp) r x) hq) (fun fl s' hs => ?_) fun e s' hs => hs
    cases fl with
    | ret u =>
      obtain ⟨v, σ', H', J, rv, q⟩ := hs
      exact ⟨v, H', J.os, J.bare, J.base, J.hok, rv, q⟩
    | next =>
      obtain ⟨σ', H', J, q⟩ := hs
      exact ⟨V.non, H', J.os, J.bare, J.base, J.hok, rfl, q⟩
    | brk => exact hs.choose_spec.choose_spec.2.elim
    | cont => exact hs.choose_spec.choose_spec.2.elim
end
/-- a call of such a def -/
theorem pe_callG {X : Cx} {x : Str} {p pos : Pos} {e : Expr} {es : List Expr} {t : TA} {CX : CXT} {k : Nat} {f : Addr} {fd : FuncData} {ps : List Str} {sp : Sp} {E : XK}
    (F : FnG X.prog X.w X.K X.mg X.base CX k f fd ps sp) (hr : Room k X.A) (hG : X.A.guards = some []) (hg : Gl X x) (hm : X.mg x = some (.ref f)) (hk : PySem.W.keepIn X.K (.ref f) = true) (hb : Binds X.K fd ps []) (hx : Passes CX X E)
    (ha : PA X (e :: es) t) (hdb : (x == ("__debug__" : Str)) = false := by decide) (he : starEach (e :: es) X.env = (false, eval e X.env) :: starEach es X.env := by rfl) (hpl : (backTo pos (starEach es X.env)).any (·.1) = false := by rfl) :
    PE X (.Call (.Name x p) (e :: es) [] pos) (tCall sp [] E t) := by
  refine ⟨fun pins s σ H Q I h => wpAny_Call_Name_kw (ld_glob I hg hm ?_ hdb)⟩
  refine PySem.W.callWith_K (h₀ := X.base) I.ok.mod.kin hk (thn (ha.run pos pins s σ H _ I h) fun us s1 ⟨vs, H1, I1, r, q⟩ => ⟨I1.kIn, ?_⟩) he hpl
  have r2 : Vals (vs ++ []) (us ++ []) := r.append .nil
  refine wpAny_call (codeAny_mono (F.run X.A X.stack s1 H1 ⟨us, []⟩ (us ++ []) (vs ++ []) Q E hr hG I1.env0 (hb s1 us I1.kIn (by rw [← r2.length]; exact F.len _ _ _ _ q)) r2 q) fun res s' hq => ?_)
  match res, hq with
  | .error e, hq => exact hx pins σ H1 s1 e s' I1 hq
  | .ok (.ret u), hq => exact I1.after hq
  | .ok .next, hq => exact False.elim hq
  | .ok .brk, hq => exact False.elim hq
  | .ok .cont, hq => exact False.elim hq
end Mx

set_option linter.all false
set_option maxRecDepth 100000
set_option maxHeartbeats 4000000
namespace Mx
open PySem PySem.Spec PyProof.Rows L2
/-! ### a dict written out with tuples of numbers and None for keys, and one of its values asked for at once -/
section
variable {K : PySem.W.Frag} {io io' io0 : List Addr} {H H' B : Hp}
theorem dk_tuO {D : Addr} {ws : List (Key × V)} {o : HO} (hD : H D = some (.dK ws)) : (∀ (a : Addr) (xs : List V), SqT K H a xs → SqT K (L2.upd H D o) a xs) ∧ ∀ (a : Addr) (xs : List V), SqF K H a xs → SqF K (L2.upd H D o) a xs := by
  refine ⟨fun a xs h => ?_, fun a xs h => ?_⟩
  · rcases h with h | h
    · rcases h with h | ⟨x, h⟩
      · exact .inl (.inl (by rw [upd_ne (ne_of h hD (by intro z; cases z))]; exact h))
      · exact .inl (.inr ⟨x, by rw [upd_ne (ne_of h hD (by intro z; cases z))]; exact h⟩)
    · exact .inr h
  · rcases h with ⟨x, h⟩ | h
    · exact .inl ⟨x, by rw [upd_ne (ne_of h hD (by intro z; cases z))]; exact h⟩
    · exact .inr h
theorem SR.dkO {S : Sto} {D : Addr} {ws : List (Key × V)} {o : HO} (s : SR K io H S) (hD : H D = some (.dK ws)) (hi : D ∉ io) : SR K io (L2.upd H D o) S := by
  refine ⟨s.len, s.inj, fun n a o h1 h2 => ?_⟩
  have na : a ≠ D := fun e => hi (by rw [← e]; exact List.mem_of_getElem? h1)
  exact (s.obj n a o h1 h2).keep (upd_ne na) (fun b x hb hn => ⟨by rw [upd_ne (ne_of hb hD (by intro z; cases z))]; exact hb, hn⟩) fun xs vs k => (VR.up (dk_tuO hD).1 (dk_tuO hD).2).2 _ _ k
theorem Le.dkO {D : Addr} {ws : List (Key × V)} {o : HO} (l : Le K io0 B io H) (hD : H D = some (.dK ws)) (hB : B D = none) : Le K io0 B io (L2.upd H D o) :=
  ⟨l.ia, fun a xs h => (dk_tuO hD).1 a xs (l.tu a xs h), fun a xs h => (dk_tuO hD).2 a xs (l.fz a xs h), fun a o h k => ⟨by rw [upd_ne (ne_of_none h hB)]; exact (l.fr a o h k).1, (l.fr a o h k).2⟩⟩
/-- the dict's own object, as it stands -/
def DNo (p : Addr) (es : Array DictEntry) : Heap → Prop := fun h => ∃ ep, h.get? p = some (⟨.type "dict", none, .dict es ep, #[]⟩ : Obj)
/-- a written pair, evaluated -/
def KN (K : PySem.W.Frag) (io : List Addr) (H : Hp) (q : List NestedKey × Val) (p : V × V) : Prop := ∃ a vs ys, p.1 = .ref a ∧ SqT K H a vs ∧ VRs K io H ys vs ∧ nkVs ys = some q.1 ∧ VR K io H q.2 p.2
def KNs (K : PySem.W.Frag) (io : List Addr) (H : Hp) : List (List NestedKey × Val) → List (V × V) → Prop
  | [], [] => True
  | q :: qs, p :: ps => KN K io H q p ∧ KNs K io H qs ps
  | _, _ => False
/-- an entry -/
def EN (K : PySem.W.Frag) (io : List Addr) (H : Hp) (q : List NestedKey × Val) (x : NestedKey × Addr × Value) : Prop := x.1 = .tup q.1 ∧ (∃ vs ys, SqT K H x.2.1 vs ∧ VRs K io H ys vs ∧ nkVs ys = some q.1) ∧ ∃ v, RelV v x.2.2 ∧ VR K io H q.2 v
def ENs (K : PySem.W.Frag) (io : List Addr) (H : Hp) : List (List NestedKey × Val) → List (NestedKey × Addr × Value) → Prop
  | [], [] => True
  | q :: qs, x :: xs => EN K io H q x ∧ ENs K io H qs xs
  | _, _ => False
theorem EN.mono (l : Le K io H io' H') {q : List NestedKey × Val} {x : NestedKey × Addr × Value} : EN K io H q x → EN K io' H' q x := fun ⟨e, ⟨vs, ys, h1, h2, h3⟩, v, h4, h5⟩ => ⟨e, ⟨vs, ys, l.tu _ _ h1, VRs.mono l _ _ h2, h3⟩, v, h4, VR.mono l _ _ h5⟩
theorem ENs.mono (l : Le K io H io' H') : ∀ {qs : List (List NestedKey × Val)} {xs : List (NestedKey × Addr × Value)}, ENs K io H qs xs → ENs K io' H' qs xs
  | [], [], h => h
  | _ :: _, _ :: _, h => ⟨h.1.mono l, h.2.mono l⟩
  | [], _ :: _, h => h.elim
  | _ :: _, [], h => h.elim
theorem KN.mono (l : Le K io H io' H') {q : List NestedKey × Val} {x : V × V} : KN K io H q x → KN K io' H' q x := fun ⟨a, vs, ys, e, h1, h2, h3, h4⟩ => ⟨a, vs, ys, e, l.tu _ _ h1, VRs.mono l _ _ h2, h3, VR.mono l _ _ h4⟩
theorem ENs.up (t : ∀ (a : Addr) (xs : List V), SqT K H a xs → SqT K H' a xs) (t2 : ∀ (a : Addr) (xs : List V), SqF K H a xs → SqF K H' a xs) : ∀ {qs : List (List NestedKey × Val)} {xs : List (NestedKey × Addr × Value)}, ENs K io H qs xs → ENs K io H' qs xs
  | [], [], h => h
  | _ :: _, _ :: _, ⟨⟨e, ⟨vs, ys, h1, h2, h3⟩, v, h4, h5⟩, h⟩ => ⟨⟨e, ⟨vs, ys, t _ _ h1, (VR.up t t2).2 _ _ h2, h3⟩, v, h4, (VR.up t t2).1 _ _ h5⟩, ENs.up t t2 h⟩
  | [], _ :: _, h => h.elim
  | _ :: _, [], h => h.elim
theorem ens_at : ∀ {qs : List (List NestedKey × Val)} {xs : List (NestedKey × Addr × Value)} {ks : List NestedKey} {y : Val}, ENs K io H qs xs → qs.lookup ks = some y → ∃ a u v, atKey xs (.tup ks) = some (a, u) ∧ RelV v u ∧ VR K io H y v
  | [], [], _, _, _, e => by cases e
  | (ks', y') :: qs, (k, a, u) :: xs, ks, y, h, e => by
    obtain ⟨⟨h1, _, v, h4, h5⟩, h⟩ := h
    rw [List.lookup_cons] at e
    cases hb : ks == ks' with
    | true =>
      rw [hb] at e
      cases e
      have hk := beq_iff_eq.mp hb
      refine ⟨a, u, v, ?_, h4, h5⟩
      unfold atKey
      rw [List.find?_cons]
      have h1 : k = .tup ks' := h1
      simp only [h1, hk, decide_true, Option.map_some]
    | false =>
      rw [hb] at e
      obtain ⟨a2, u2, v2, g1, g2, g3⟩ := ens_at h e
      refine ⟨a2, u2, v2, ?_, g2, g3⟩
      have h1 : k = .tup ks' := h1
      have hne : ¬ (k = NestedKey.tup ks) := fun z => by
        rw [h1] at z
        injection z with z
        rw [z] at hb
        simp at hb
      unfold atKey at g1 ⊢
      rw [List.find?_cons]
      simp only [decide_eq_false hne]
      exact g1
  | [], _ :: _, _, _, h, _ => h.elim
  | _ :: _, [], _, _, h, _ => h.elim
theorem ens_keys : ∀ {qs : List (List NestedKey × Val)} {xs : List (NestedKey × Addr × Value)}, ENs K io H qs xs → xs.map (·.1) = qs.map fun q => NestedKey.tup q.1
  | [], [], _ => rfl
  | _ :: _, _ :: _, h => by rw [List.map_cons, List.map_cons, h.1.1, ens_keys h.2]
  | [], _ :: _, h => h.elim
  | _ :: _, [], h => h.elim
theorem stored_nd : ∀ (ps acc : List (NestedKey × Addr × Value)), ((acc ++ ps).map (·.1)).Nodup → storedAllH acc ps = acc ++ ps
  | [], acc, _ => by rw [List.append_nil]; rfl
  | p :: ps, acc, h => by
    have ha : atKey acc p.1 = none := by
      unfold atKey
      rw [Option.map_eq_none_iff, List.find?_eq_none]
      intro x hx hd
      have hd := of_decide_eq_true hd
      rw [List.map_append, List.map_cons] at h
      exact (List.nodup_append.mp h).2.2 _ (List.mem_map.mpr ⟨x, hx, rfl⟩) _ List.mem_cons_self hd
    show storedAllH (storedH acc p.1 p.2.1 p.2.2) ps = _
    rw [storedH_new ha, stored_nd ps _ (by rw [List.append_assoc]; exact h), List.append_assoc]
    rfl
end
section
variable {X : Cx} {E : XK}
theorem carriesN {pins : List (Addr × Obj)} {σ : L2.St} {H : Hp} {s : Shared} {io : List Addr} (I : Inv X pins σ H s) : ∀ {qs : List (List NestedKey × Val)} {ps : List (V × V)} {ws : List (Value × Value)}, KNs X.K io H qs ps → VV ps ws →
    ∃ xs, CarriesH (nestedKind X.prog X.w) s.heap ws xs ∧ ENs X.K io H qs xs
  | [], [], _, _, .nil => ⟨[], trivial, trivial⟩
  | (ks, y) :: qs, (p1, p2) :: ps, _, ⟨⟨a, vs, ys, e, h1, h2, h3, h4⟩, h⟩, .cons (b := (u1, u2)) ⟨r1, r2⟩ r => by
    obtain ⟨xs, c1, c2⟩ := carriesN I h r
    have e : p1 = .ref a := e
    subst e
    have r1 : u1 = .ref a := r1
    subst r1
    obtain ⟨its, rv, ⟨⟨oc, od, oda, osl⟩, ho, e1, m, e2⟩, _⟩ := I.tuple h1
    dsimp only at e1 e2
    subst e1 e2
    obtain ⟨na, ok⟩ := nkVs_all (h := s.heap) h3 h2 rv
    exact ⟨(.tup ks, a, u2) :: xs, ⟨rfl, rfl, ⟨.tup ho rfl rfl na, by rw [NestedKey.depth, nk_depth ok]; decide⟩, c1⟩, ⟨rfl, ⟨vs, ys, h1, h2, h3⟩, p2, r2, h4⟩, c2⟩
  | [], _ :: _, _, h, _ => h.elim
  | _ :: _, [], _, h, _ => h.elim
def tDispN (X : Cx) (kvs : List (List NestedKey × Val)) (trs : List (TE × TE)) : TE := fun σ H Q => ∀ p, H p = none → tPairs trs σ (L2.upd H p (.dK [])) fun ps H2 => H2 p = some (.dK []) ∧ ∃ io, KNs X.K io H2 kvs ps ∧
  ∀ (xs : List (NestedKey × Addr × Value)) (es : Array DictEntry), es.toList = xs.map (entryOfKey (nestedKind X.prog X.w)) → ENs X.K io H2 kvs xs → Q (.ref p) (L2.upd H2 p (.ext (DNo p es)))
theorem pe_dispN {pos : Pos} {keys : List (Option Expr)} {values : List Expr} {kvs : List (List NestedKey × Val)} {trs : List (TE × TE)} (hu : X.A.units + 66 < cLine) (h : PPs X pos keys values trs) (hall : keys.all (·.isSome) = true) (hl : keys.length = values.length) (h0 : keys ≠ [])
    (h15 : keys.length ≤ 15) (nd : (kvs.map (·.1)).Nodup) : PE X (.Dict keys values pos) (tDispN X kvs trs) := by
  refine ⟨fun pins s σ H Q I q => ?_⟩
  have hn := I.hok.fresh (Nat.le_refl s.heap.objs.size)
  have I1 := I.laid (a := s.heap.objs.size) (o := .dK []) (h' := s.heap.push { cls := .type "dict", data := .dict #[] }) (t' := s.toks) (fun _ _ q => Heap.get?_push_of_some _ q) (Nat.le_refl _) (dk_empty s.heap I.big)
  have pl := pairTrees_length keys values X.env pos hall hl
  have room : (nestedKind X.prog X.w).room X.A := by show X.A.units + 8 < cLine; omega
  rw [arm_eval_Dict, zip_pairTrees keys values X.env pos hall hl, dictDisplay_pairs (pairTrees keys values X.env pos) (fun e => by rw [e] at pl; exact h0 (List.length_eq_zero_iff.mp pl.symm)) (by omega)]
  refine wpAny_bind (wpAny_standAt (wpAny_bind (wpAny_subDictH (knd := nestedKind X.prog X.w) (Q := fun d s' => wpAny (model X.prog X.w) X.A (pure (Value.ref d)) (EP X pins σ Q) X.xe s') room (by omega)
    (thn (h.run pins _ σ _ _ I1 (q _ hn)) fun ws s2 ⟨ps, H2, I2, rel, e, io, hk, q2⟩ => ?_))))
  obtain ⟨xs, c, en⟩ := carriesN I2 hk rel
  have hkeys := ens_keys en
  have ndx : (xs.map (·.1)).Nodup := by
    rw [hkeys]
    have : kvs.map (fun q => NestedKey.tup q.1) = (kvs.map (·.1)).map NestedKey.tup := by rw [List.map_map]; rfl
    rw [this]
    exact nd.map NestedKey.tup fun a b h1 h2 => h1 (by injection h2)
  have hst := stored_nd xs [] (by rw [List.nil_append]; exact ndx)
  rw [List.nil_append] at hst
  have hemp : s2.heap.DictOfH (nestedKind X.prog X.w) s.heap.objs.size [] := by
    obtain ⟨z, hd, vs0, r0, o, es, ep, d1, d2, d3, d4, d5, d6⟩ := (show ObjOk X.prog X.w H2 s2.heap s.heap.objs.size (.dK []) from I2.hok _ _ e)
    cases r0
    have : es.toList = [] := by
      generalize es.toList = l at d5
      cases d5
      rfl
    exact ⟨o, es, ep, d1, d2, d3, by rw [this]; rfl, fun x hx => (by cases hx), List.nodup_nil⟩
  refine ⟨xs, c, hemp, fun h' tk dd hs => wpAny_pure ?_⟩
  rw [hst] at dd
  obtain ⟨o, es, ep, d1, d2, d3, d4, d5, d6⟩ := dd
  obtain ⟨oc, od, oda, osl⟩ := o
  obtain ⟨f1, f2, f3⟩ := d2
  dsimp only at f1 f2 f3 d3
  subst f1 f2 f3 d3
  have new : ObjOk X.prog X.w (L2.upd H2 s.heap.objs.size (.ext (DNo s.heap.objs.size es))) h' s.heap.objs.size (.ext (DNo s.heap.objs.size es)) := ⟨⟨ep, d1⟩, ⟨_, d1⟩, fun g1 g2 ⟨ep2, k1⟩ k2 => ⟨ep2, k2 _ k1⟩⟩
  exact ⟨.ref s.heap.objs.size, _, d_write I2 (by rw [e]; exact True.intro) hs ⟨_, d1⟩ new, rfl, q2 xs es d4 en⟩
theorem ix_dn {kvs : List (List NestedKey × Val)} (hu : X.A.units + 66 < cLine) (nd : (kvs.map (·.1)).Nodup) :
    IxR X (fun x y H Q => ∃ (p : Addr) (es : Array DictEntry) (xs : List (NestedKey × Addr × Value)) (io : List Addr) (q : Addr) (vs : List V) (ys : List Val) (ks : List NestedKey) (yv : Val), x = .ref p ∧ H p = some (.ext (DNo p es)) ∧ es.toList = xs.map (entryOfKey (nestedKind X.prog X.w)) ∧ ENs X.K io H kvs xs ∧
      y = .ref q ∧ SqT X.K H q vs ∧ VRs X.K io H ys vs ∧ nkVs ys = some ks ∧ kvs.lookup ks = some yv ∧ ∀ v, VR X.K io H yv v → Q v H) := by
  intro value slice pins s σ H x y v u Q I rx ry h hs
  obtain ⟨p, es, xs, io, q, vs, ys, ks, yv, rfl, hp, he, en, rfl, hT, hr, hks, hlk, hq⟩ := h
  cases rx
  cases ry
  obtain ⟨ep, hg⟩ := (show ObjOk X.prog X.w H s.heap p (.ext (DNo p es)) from I.hok _ _ hp).1
  have nis : ∀ {qs : List (List NestedKey × Val)} {xs : List (NestedKey × Addr × Value)}, ENs X.K io H qs xs → ∀ x ∈ xs, (nestedKind X.prog X.w).is s.heap x.1 x.2.1 := by
    intro qs
    induction qs with
    | nil =>
      intro xs h x hx
      cases xs with
      | nil => cases hx
      | cons _ _ => exact h.elim
    | cons q qs ih =>
      intro xs h x hx
      cases xs with
      | nil => cases hx
      | cons z zs =>
        rcases List.mem_cons.mp hx with rfl | hx
        · obtain ⟨⟨e0, ⟨vs, ys, h1, h2, h3⟩, _⟩, _⟩ := h
          obtain ⟨its, rv, ⟨⟨oc, od, oda, osl⟩, ho, e1, m, e2⟩, _⟩ := I.tuple h1
          dsimp only at e1 e2
          subst e1 e2
          obtain ⟨na, ok⟩ := nkVs_all (h := s.heap) h3 h2 rv
          rw [e0]
          exact ⟨.tup ho rfl rfl na, by rw [NestedKey.depth, nk_depth ok]; decide⟩
        · exact ih h.2 x hx
  have hkeys := ens_keys en
  have ndx : (xs.map (·.1)).Nodup := by
    rw [hkeys]
    have : kvs.map (fun q => NestedKey.tup q.1) = (kvs.map (·.1)).map NestedKey.tup := by rw [List.map_map]; rfl
    rw [this]
    exact nd.map NestedKey.tup fun a b h1 h2 => h1 (by injection h2)
  have hm : s.heap.DictOfH (nestedKind X.prog X.w) p xs := ⟨_, es, ep, hg, ⟨rfl, rfl, rfl⟩, rfl, he, nis en, ndx⟩
  obtain ⟨its, rv, ⟨⟨oc, od, oda, osl⟩, ho, e1, m, e2⟩, _⟩ := I.tuple hT
  dsimp only at e1 e2
  subst e1 e2
  obtain ⟨na, ok⟩ := nkVs_all (h := s.heap) hks hr rv
  have hkey : (nestedKind X.prog X.w).is s.heap (.tup ks) q := ⟨.tup ho rfl rfl na, by rw [NestedKey.depth, nk_depth ok]; decide⟩
  obtain ⟨b, u0, v0, hat, rel, hv⟩ := ens_at en hlk
  refine tail_any hm.typeIs PySem.F.slot_dict_getitem.lookup (wpAny_getItem_heap (knd := nestedKind X.prog X.w) ?_ hkey hm hat ?_) hs
  · show X.A.in1.units + 8 < cLine
    have : X.A.in1.units ≤ X.A.units + 1 := by first | exact Nat.le_refl _ | (simp [Around.in1]) | decide
    omega
  · exact ⟨v0, H, I.tok _, rel, hq v0 hv⟩
/-! the written pairs -/
structure PPn (X : Cx) (E : XK) (pos : Pos) (keys : List (Option Expr)) (values : List Expr) (kvs : List (List NestedKey × Val)) : Prop where
  ex : ∃ trs, PPs X pos keys values trs ∧ ∀ io σ H env S (Q : List (V × V) → Hp → Prop), ER X.K io H env σ → SR X.K io H S → (∀ io' H' ps, Le X.K io H io' H' → SR X.K io' H' S → KNs X.K io' H' kvs ps → Q ps H') → tPairs trs σ H Q
theorem ppn_nil {pos : Pos} : PPn X E pos [] [] [] := ⟨[], pps_nil, fun io σ H env S Q er sr h => h io H [] Le.refl sr trivial⟩
theorem ppn_cons {pos : Pos} {k v : Expr} {keys : List (Option Expr)} {values : List Expr} {kvs : List (List NestedKey × Val)} {mk : Ev → M Val} {y : Val} {ys : List Val} {ks : List NestedKey} (hk : PEm X E k mk) (hv : PEm X E v (mC y)) (hr : PPn X E pos keys values kvs)
    (hm : ∀ env S, mk env S = .ok (.tup ys) S := by intro env S; rfl) (hn : nkVs ys = some ks := by rfl) : PPn X E pos (some k :: keys) (v :: values) ((ks, y) :: kvs) := by
  obtain ⟨tk, pk, qk⟩ := hk.ex
  obtain ⟨tv, pv, qv⟩ := hv.ex
  obtain ⟨trs, pr, qr⟩ := hr.ex
  refine ⟨(tk, tv) :: trs, pps_cons pk pv pr, fun io σ H env S Q er sr h => ?_⟩
  show tk σ H fun x H1 => tv σ H1 fun y H2 => tPairs trs σ H2 fun ps H3 => Q ((x, y) :: ps) H3
  refine qk io σ H env S _ er sr ?_
  rw [hm]
  intro io1 H1 x l1 s1 r1
  obtain ⟨a, vs, rfl, hT, hys⟩ := r1
  refine qv io1 σ H1 env S _ (er.mono l1) s1 ?_
  intro io2 H2 w l2 s2 r2
  refine qr io2 σ H2 env S _ ((er.mono l1).mono l2) s2 fun io3 H3 ps l3 s3 kn => ?_
  exact h io3 H3 _ ((l1.trans l2).trans l3) s3 ⟨⟨a, vs, ys, rfl, l3.tu _ _ (l2.tu _ _ hT), VRs.mono l3 _ _ (VRs.mono l2 _ _ hys), hn, VR.mono l3 _ _ r2⟩, kn⟩
theorem pem_dispIx {pos p2 : Pos} {keys : List (Option Expr)} {values : List Expr} {kvs : List (List NestedKey × Val)} {a : Expr} {ma : Ev → M Val} (hu : X.A.units + 66 < cLine) (hp : PPn X E pos keys values kvs) (ha : PEm X E a ma) (nd : (kvs.map (·.1)).Nodup) (hs : PlainIx a := by exact fun _ _ => rfl)
    (hall : keys.all (·.isSome) = true := by rfl) (hl : keys.length = values.length := by rfl) (h0 : keys ≠ [] := by intro h; cases h) (h15 : keys.length ≤ 15 := by decide) : PEm X E (.Subscript (.Dict keys values pos) a p2) (mGetN kvs ma) := by
  obtain ⟨trs, pp, q⟩ := hp.ex
  obtain ⟨ta, pa, qa⟩ := ha.ex
  refine ⟨_, pe_ix (ix_dn hu nd) (pe_dispN hu pp hall hl h0 h15 nd) pa hs, fun io σ H env S Q er sr h => ?_⟩
  intro p hpn
  have np := (fresh Le.refl sr hpn).2
  have l0 : Le X.K io H io (L2.upd H p (.dK [])) := Le.new hpn
  refine q io σ _ env S _ (er.mono l0) (sr.new hpn) fun io1 H1 ps l1 s1 kn => ?_
  obtain ⟨f1, f2⟩ := l1.fr p (.dK []) upd_same np
  refine ⟨f1, io1, kn, fun xs es he en => ?_⟩
  have l2 : Le X.K io H io1 (L2.upd H1 p (.ext (DNo p es))) := (l0.trans l1).dkO f1 hpn
  have s2 : SR X.K io1 (L2.upd H1 p (.ext (DNo p es))) S := s1.dkO f1 f2
  have en2 : ENs X.K io1 (L2.upd H1 p (.ext (DNo p es))) kvs xs := ENs.up (dk_tuO f1).1 (dk_tuO f1).2 en
  refine qa io1 σ _ env S _ (er.mono l2) s2 (fin_bind (FinG.mono l2 h) fun y S2 io3 H3 v _ l3 s3 r3 h3 => ?_)
  obtain ⟨g1, _⟩ := l3.fr p _ upd_same f2
  have en3 := en2.mono l3
  cases y with
  | tup ys =>
    obtain ⟨b, vs, rfl, hT, kk⟩ := r3
    cases ek : nkVs ys with
    | none => simp only [ek, Option.bind_none] at h3; exact h3.elim
    | some ks =>
      cases el : kvs.lookup ks with
      | none => simp only [ek, Option.bind_some, el] at h3; exact h3.elim
      | some yv =>
        simp only [ek, Option.bind_some, el] at h3
        exact ⟨p, es, xs, io3, b, vs, ys, ks, yv, rfl, g1, he, en3, rfl, hT, kk, ek, el, fun v hv => fin_here h3 s3 hv⟩
  | _ => exact h3.elim
end
end Mx

set_option linter.all false
set_option maxRecDepth 100000
set_option maxHeartbeats 4000000
namespace Mx
open PySem PySem.Spec PyProof.Rows L2
/-! ### repr, where no repr is under way -/
/-- a def as it stands, by its name, to be called while no repr is under way -/
structure FdG (P : Program) (w : World) (K : PySem.W.Frag) (mg : Str → Option Value) (base : Heap) (CX : CXT) (k : Nat) (x : Str) (g : List Val → M Val) : Prop where
  ex : ∃ f fd ps, FnG P w K mg base CX k f fd ps (spI K g) ∧ mg x = some (.ref f) ∧ PySem.W.keepIn K (.ref f) = true ∧ Binds K fd ps []
theorem FnG.of {P : Program} {w : World} {K : PySem.W.Frag} {mg : Str → Option Value} {base : Heap} {CX : CXT} {k : Nat} {f : Addr} {fd : FuncData} {ps : List Str} {sp : Sp} (F : FnOk P w K mg base CX k f fd ps sp) : FnG P w K mg base CX k f fd ps sp := ⟨F.len, fun A o s H a us vs Q E hr _ => F.run A o s H a us vs Q E hr⟩
section
variable {X : Cx} {E : XK} {x : Str} {p pos : Pos} {e : Expr} {es : List Expr} {CX : CXT} {k : Nat} {g : List Val → M Val} {mr : Ev → M (List Val)}
theorem pem_callG (c : FdG X.prog X.w X.K X.mg X.base CX k x g) (hr : Room k X.A) (hG : X.A.guards = some []) (hx : Passes CX X E) (ha : PAm X E (e :: es) mr) (hg : Gl X x := by rfl) (hdb : (x == ("__debug__" : Str)) = false := by decide) (he : starEach (e :: es) X.env = (false, eval e X.env) :: starEach es X.env := by rfl) (hpl : (backTo pos (starEach es X.env)).any (·.1) = false := by rfl) :
    PEm X E (.Call (.Name x p) (e :: es) [] pos) (mCall g mr) := by
  obtain ⟨f, fd, ps, F, hm, hk, hb⟩ := c.ex
  obtain ⟨t, pt, qt⟩ := ha.ex
  refine ⟨_, pe_callG F hr hG hg hm hk hb hx pt hdb he hpl, fun io σ H env S Q er sr h => ?_⟩
  refine qt io σ H env S _ er sr (fin_bind h fun xs S1 io1 H1 vs _ l1 s1 r1 h1 => ?_)
  rw [List.append_nil]
  exact ⟨io1, S1, xs, s1, r1, h1⟩
end
/-- a def by its body, read while no repr is under way -/
theorem fn_mdG {P : Program} {w : World} {K : PySem.W.Frag} {mg : Str → Option Value} {base : Heap} {x qual : Str} {st : Stmt} {f : Addr} {fd : FuncData} {N ps : List Str} {k : Nat} {m : SM} (F : FunD K x qual (defArgs st) (defBody st) (defScope st) [] [] f fd) (S : FnScope N ps (defScope st))
    (hb : ∀ (cdv : Value) (A : Around) (outer : List Env) (s : Shared) (H : Hp) (E : XK), Room k (A.deeper (envOfC qual (defScope st) s.heap.objs.size f cdv)) → (A.deeper (envOfC qual (defScope st) s.heap.objs.size f cdv)).guards = some [] →
      PSsm (cxOf CX0 P w K mg base N qual (defScope st) f cdv A outer s H E).nox E (defBody st) m) : FnG P w K mg base CX0 (k + 1) f fd ps (spI K (trm (runF ps.length N.length m))) := by
  refine fnG_of F S (fun vs H Q E h => ?_) (fun cdv A outer s H vs Q E hr hg h => ?_)
  · obtain ⟨io, St, xs, sr, r, hf⟩ := h
    have hf := trm_ok sr hf
    by_cases hl : xs.length = ps.length
    · rw [r.length, hl]
    · unfold runF at hf
      rw [if_neg hl] at hf
      exact hf.elim
  · obtain ⟨io, St, xs, sr, r, hf⟩ := h
    have hf := trm_ok sr hf
    obtain ⟨t, pt, qt⟩ := (hb cdv A outer s H E hr hg).ex
    refine ⟨t, PSs.nox pt, ?_⟩
    by_cases hl : xs.length = ps.length
    · unfold runF at hf
      rw [if_pos hl] at hf
      have er : ER K io H (xs.map some ++ List.replicate (N.length - xs.length) none) (L2.start N vs) := er_start r
      refine qt io _ H _ St _ er sr ?_
      cases eo : m (xs.map some ++ List.replicate (N.length - xs.length) none) St with
      | bad => rw [eo] at hf; exact hf
      | err y S1 => rw [eo] at hf; exact hf
      | ok q S1 =>
        rw [eo] at hf
        obtain ⟨fl, env⟩ := q
        cases fl with
        | nx => exact fun io' H' σ' l s' _ => hf io' H' .non l s' rfl
        | rt v => exact fun io' H' v l s' rv => hf io' H' v l s' rv
        | bk => exact hf.elim
        | ct => exact hf.elim
    · unfold runF at hf
      rw [if_neg hl] at hf
      exact hf.elim
/-! a law's end, by its def, read while no repr is under way -/
section
variable {P : Program} {w : World} {K : PySem.W.Frag} {mg mb : Str → Option Value} {CX : CXT} {k : Nat} {fa a : Addr} {fd : FuncData} {x : Str} {sp : Sp} {s₁ : Shared} {vs : List Value} {ns : List Int}
/-- the def is called at the heap behind the top, where H holds the script at most -/
theorem law_coreG (KX : K.In s₁.heap) (hns : s₁.heap.Ns mainGlobals mg) (hb : s₁.heap.Ns builtinsNs mb) (hbb : ∀ x : Str, x ≠ "__name__" → mb x = bootBuiltins x) (hlim : s₁.heap.NoLimit) (hg : s₁.gens = #[])
    (ha : s₁.heap.get? a = some { cls := .type "list", data := .seq vs.toArray }) (hr : Room k callerA)
    (F : ∀ base : Heap, K.In base → base.Ns mainGlobals mg → FnG P w K mg base CX k fa fd [x] sp) (hbind : ∀ (s : Shared) (u : Value), BindsTo s fd ⟨[u], []⟩ [(x, u)])
    (hCX : ∀ H e s', CX [] H s₁ (fun _ _ _ => False) e s' → False)
    (H : Hp) (hO : Only H) (hsp : sp [.ref a] H (fun v _ => v = .bl true) fun _ _ _ => False) (hok : HOk P w H s₁.heap) (hA : ∀ b, H b ≠ none → b = a) (hK : H a ≠ none → K.lookup a = none) :
    codeAny (model P w) callerA (.call (.ref fa) ⟨[.ref a], []⟩) (fun r s' => r = .ok (.ret (.bool true)) ∧ OldK s₁.heap s'.heap ∧ s'.os = s₁.os ∧ AllBare s'.gens) s₁ := by
  -- what stands at the script is a list, so no names' dict and nothing of the written part stands there
  have away : ∀ {b : Addr} {o : Obj}, s₁.heap.get? b = some o → (b = a → H a = none) → (hidT s₁.heap H).get? b = some o := fun {b o} e n => hidT_get e (by
    by_cases q : H b = none
    · exact q
    · have e2 := hA b q
      rw [e2]
      exact n e2)
  have names : ∀ {b : Addr} {m : Str → Option Value}, s₁.heap.Ns b m → (hidT s₁.heap H).Ns b m := fun {b m} ⟨o, es, ep, e, d, r⟩ => ⟨o, es, ep, away e (fun z => by
    rw [z, ha] at e
    cases e
    have d' : Data.seq vs.toArray _ = Data.dict es ep := d
    cases d'), d, r⟩
  have part : K.In (hidT s₁.heap H) := fun b o e => away (KX b o e) (fun z => by
    rw [z] at e
    by_cases q : H a = none
    · exact q
    · rw [hK q] at e
      cases e)
  obtain ⟨mc, l1, l2⟩ := hlim
  have start : Env0 P w K mg (hidT s₁.heap H) callerA [] s₁ H := ⟨rfl, ⟨part, names hns, ⟨mb, names hb, hbb⟩, ⟨mc, names l1, l2⟩⟩, fun b o e => of_hidT e, Nat.le_of_eq (hidT_size _ _), trivial, (fun b hb => absurd (show b ∈ ([] : List Addr) from hb) List.not_mem_nil), hok, .of_eq hg⟩
  refine codeAny_mono ((F _ part (names hns)).run callerA [] s₁ H ⟨[.ref a], []⟩ [.ref a] [.ref a] _ _ hr rfl start (hbind s₁ (.ref a)) (.cons rfl .nil) hsp) fun r s' h => ?_
  match r, h with
  | .error e, h => exact (hCX H e s' h).elim
  | .ok .next, h => exact False.elim h
  | .ok .brk, h => exact False.elim h
  | .ok .cont, h => exact False.elim h
  | .ok (.ret u), ⟨v, H', os, bare, un, hok', r', q⟩ =>
    have q' : v = .bl true := q
    subst q'
    have r' : u = Value.bool true := r'
    subst r'
    refine ⟨rfl, OldK.of_keep fun b o e => ?_, os, bare⟩
    rcases hO b with z | ⟨ob, xs, z⟩
    · exact un.keep b o e z (fun y => absurd (show b ∈ ([] : List Addr) from y) List.not_mem_nil) (by simp)
    · have e1 := (hok b _ z).1
      rw [e] at e1
      cases e1
      exact (hok' b _ (un.frzs b o _ z)).1
theorem law_callG (KX : K.In s₁.heap) (hns : s₁.heap.Ns mainGlobals mg) (hb : s₁.heap.Ns builtinsNs mb) (hbb : ∀ x : Str, x ≠ "__name__" → mb x = bootBuiltins x) (hlim : s₁.heap.NoLimit) (hg : s₁.gens = #[])
    (ha : s₁.heap.get? a = some { cls := .type "list", data := .seq vs.toArray }) (hi : IntsAre vs ns) (hl : ns.length ≤ sizeLine) (hr : Room k callerA)
    (F : ∀ base : Heap, K.In base → base.Ns mainGlobals mg → FnG P w K mg base CX k fa fd [x] sp) (hbind : ∀ (s : Shared) (u : Value), BindsTo s fd ⟨[u], []⟩ [(x, u)])
    (hsp : ∀ H : Hp, Only H → SqL K H a (ns.map V.int) → sp [.ref a] H (fun v _ => v = .bl true) fun _ _ _ => False)
    (hCX : ∀ H e s', CX [] H s₁ (fun _ _ _ => False) e s' → False) :
    codeAny (model P w) callerA (.call (.ref fa) ⟨[.ref a], []⟩) (fun r s' => r = .ok (.ret (.bool true)) ∧ OldK s₁.heap s'.heap ∧ s'.os = s₁.os ∧ AllBare s'.gens) s₁ := by
  have rv := vals_ints hi
  have lenV := hi.length
  have core := law_coreG (P := P) (w := w) KX hns hb hbb hlim hg ha hr F hbind hCX
  by_cases hk : K.lookup a = none
  · have at_ : (fun b => if b = a then some (HO.frz { cls := .type "list", data := .seq vs.toArray } (.lst (ns.map V.int))) else none : Hp) a = some (.frz { cls := .type "list", data := .seq vs.toArray } (.lst (ns.map V.int))) := if_pos rfl
    have off : ∀ b, (fun b => if b = a then some (HO.frz { cls := .type "list", data := .seq vs.toArray } (.lst (ns.map V.int))) else none : Hp) b ≠ none → b = a := fun b z => by
      by_cases e : b = a
      · exact e
      · exact absurd (if_neg e) z
    have only : Only (fun b => if b = a then some (HO.frz { cls := .type "list", data := .seq vs.toArray } (.lst (ns.map V.int))) else none) := fun b => by
      by_cases e : b = a
      · exact .inr ⟨_, _, if_pos e⟩
      · exact .inl (if_neg e)
    refine core _ only (hsp _ only (.inl (.inr ⟨_, at_⟩))) (fun b u z => ?_) off fun _ => hk
    have e := off b (fun y => nomatch (show (none : Option HO) = some u from y.symm.trans z))
    subst e
    have z2 : some (HO.frz { cls := .type "list", data := .seq vs.toArray } (.lst (ns.map V.int))) = some u := at_.symm.trans z
    cases z2
    exact ⟨ha, by rw [List.length_map]; exact hl, vs, _, rv, ha⟩
  · obtain ⟨o, ho⟩ := Option.ne_none_iff_exists'.mp hk
    have e := KX a o ho
    rw [ha] at e
    cases e
    have only : Only (fun _ => none) := fun _ => .inl rfl
    exact core _ only (hsp _ only (.inr ⟨_, vs.toArray, _, ho, rfl, rfl, rfl, by rw [List.size_toArray, lenV]; exact hl, by simpa using rv⟩)) (fun b u z => by cases z) (fun b z => absurd rfl z) fun z => absurd rfl z
end
theorem walk_ofG {l : PySem.W.OpenLaw} {n k : Nat} {q : Program} {loose : List Str} {XP : (Str → Option Value) → Heap → Prop} {YP : World → Heap → Prop} {d : DefRec} {CX : CXT} {x : Str}
    (hn : l.most = some n) (hn2 : n ≤ sizeLine) (hdf : d.params.defaults = []) (hr : Room k callerA)
    (F : ∀ (w : World) (mg : Str → Option Value) (fa : Addr) (h : Heap), YP w h → h.Ns mainGlobals mg → mg d.name = some (.ref fa) →
      ∃ (K : PySem.W.Frag) (fd : FuncData) (sp : Sp), K.In h ∧ (∀ (s : Shared) (u : Value), BindsTo s fd ⟨[u], []⟩ [(x, u)]) ∧
        (∀ (H : Hp) (a : Addr) (ns : List Int), ns.length ≤ n → Only H → SqL K H a (ns.map V.int) → sp [.ref a] H (fun v _ => v = .bl true) fun _ _ _ => False) ∧
        ∀ base : Heap, K.In base → base.Ns mainGlobals mg → FnG l.prog w K mg base CX k fa fd [x] sp)
    (hCX : ∀ (H : Hp) (s : Shared) (e : Value) (s' : Shared), CX [] H s (fun _ _ _ => False) e s' → False) :
    PySem.W.WalkO q loose XP YP l.row.toRowW d [] (fun f vs => PySem.call f vs) := by
  refine Att.attach_call hn hdf fun w s₀ s₁ mg mb fa o pm cd doc a vs ns G Y ho hd hcd hmg hobj hints hlen hg => ?_
  obtain ⟨K, fd, sp, KX, hb, hsp, hF⟩ := F w mg fa _ Y G.T.g hmg
  exact law_callG KX G.T.g G.T.b G.T.builtins G.T.nolimit hg hobj hints (Nat.le_trans hlen hn2) hr hF hb (fun H hO hS => hsp H a ns hlen hO hS) fun H e s' => hCX H s₁ e s'
/-! the rule of repr -/
def okR (d : PyData) : Bool := d.showable && (!d.hasDict && (decide (d.depth ≤ 60) && decide (d.shown.length ≤ sizeLine)))
def gRepr (x : Val) : M Val := fun S => match x with
  | .tup xs => (match datE (.tup xs) S with
    | some d => if okR d = true then .ok (.str d.shown.cps.toList) S else .bad
    | none => .bad)
  | .loc n => (match datE (.loc n) S with
    | some d => if okR d = true then .ok (.str d.shown.cps.toList) S else .bad
    | none => .bad)
  | _ => .bad
def rReprR (K : PySem.W.Frag) : List V → Hp → VK → Prop := fun vs H Q => ∃ (a : Addr) (d : PyData), vs = [V.ref a] ∧ Dp K H (.ref a) d ∧ okR d = true ∧ Q (.str d.shown) H
section
variable {X : Cx} {E : XK}
theorem cr_reprR (hG : X.A.guards = some []) (hu : X.A.units + 66 < cLine) : CallR X (.builtin "repr") (rReprR X.K) := by
  intro pins s σ H vs us Q I r h
  obtain ⟨a, d, rfl, hd, ok, q⟩ := h
  rw [Vals.ref1 r]
  unfold okR at ok
  rw [Bool.and_eq_true, Bool.and_eq_true, Bool.and_eq_true, decide_eq_true_eq, decide_eq_true_eq] at ok
  obtain ⟨o1, o2, o3, o4⟩ := ok
  obtain ⟨as, rd⟩ := Dp.reads I d (.ref a) (.ref a) hd rfl
  refine repr_of_reads' rd o1 (fun z => by rw [z] at o2; cases o2) hG (by omega) (fun b o e => e) (fun h' u tk kp => ?_) o4
  exact ⟨.str d.shown, H, I.kept kp, ⟨u, rfl⟩, q⟩
theorem unm_repr (hG : X.A.guards = some []) (hu : X.A.units + 66 < cLine) : UnM X E (.builtin "repr") gRepr := ⟨_, cr_reprR hG hu, fun io H S x v Q s r h => by
  have key : ∀ (y : Val) (a : Addr), VR X.K io H y (.ref a) → (match datE y S with
    | some d => if okR d = true then Out.ok (Val.str d.shown.cps.toList) S else .bad
    | none => .bad) = gRepr y S → FinG X.K (VR X.K) E io H Q (gRepr y S) → rReprR X.K [V.ref a] H Q := fun y a ry e h => by
    rw [← e] at h
    cases ed : datE y S with
    | none => simp only [ed] at h; exact h.elim
    | some d =>
      simp only [ed] at h
      by_cases ok : okR d = true
      · rw [if_pos ok] at h
        refine ⟨a, d, rfl, dat_dp s _ _ _ _ ry ed, ok, fin_here h s ?_⟩
        show V.str d.shown = .str ⟨d.shown.cps.toList.toArray⟩
        rw [Array.toArray_toList]
      · rw [if_neg ok] at h
        exact h.elim
  cases x with
  | tup xs =>
    obtain ⟨a, vs, rfl, h1, h2⟩ := r
    exact key (.tup xs) a ⟨a, vs, rfl, h1, h2⟩ rfl h
  | loc n =>
    obtain ⟨a, h1, rfl⟩ := r
    exact key (.loc n) a ⟨a, h1, rfl⟩ rfl h
  | _ => exact h.elim⟩
end
end Mx

set_option linter.all false
set_option maxRecDepth 100000
namespace Mx.K07
open Mx
def cn_COUNTS : List (List PySem.NestedKey × Val) := [([.num 0, .num 1], .str (cs "?")), ([.num 0, .none], .str (cs "*")), ([.num 1, .none], .str (cs "+"))]
def b_sign_text (F : Nat → List Val → M Val) : SM :=
    (sSeq (sIf (mEq false datE datE (mVar 0) (mC (.str (cs " abcdefghijklmnopqrstuvwxyz")))) (sRet (mC (.str (cs ".")))) sNx)
    (sRet (mIf (mEq false datE datE (mUn gLen (mVar 0)) (mC (.int 1))) (mVar 0) (mOp gPlus (mOp gPlus (mC (.str (cs "["))) (mVar 0)) (mC (.str (cs "]")))))))
def b_within (F : Nat → List Val → M Val) : SM :=
    (sSeq (sAsg (.name 2) (mCall (F 60) (mCons (mVar 0) mNil)))
    (sRet (mIf (mTst (gIn false) (mOp gIx (mVar 0) (mC (.int 0))) (mVar 1)) (mOp gPlus (mOp gPlus (mC (.str (cs "("))) (mVar 2)) (mC (.str (cs ")")))) (mVar 2))))
def b_write (F : Nat → List Val → M Val) : SM :=
    (sSeq (sStar 1 2 (mVar 0))
    (sSeq (sIf (mEq false datE datE (mVar 1) (mC (.str (cs "sign")))) (sRet (mCall (F 58) (mCons (mOp gIx (mVar 2) (mC (.int 0))) mNil))) sNx)
    (sSeq (sIf (mEq false datE datE (mVar 1) (mC (.str (cs "row")))) (sRet (mJoin asL (mC (.str (cs ""))) (mLc (mSrc (mOp gIx (mVar 2) (mC (.int 0)))) (.name 5) mYes (mCall (F 59) (mCons (mVar 5) (mCons (mTup (mCons (mC (.str (cs "any"))) mNil)) mNil))) [5]))) sNx)
    (sSeq (sIf (mEq false datE datE (mVar 1) (mC (.str (cs "any")))) (sRet (mJoin asL (mC (.str (cs "|"))) (mLc (mSrc (mOp gIx (mVar 2) (mC (.int 0)))) (.name 5) mYes (mCall (F 60) (mCons (mVar 5) mNil)) [5]))) sNx)
    (sSeq (sIf (mEq false datE datE (mVar 1) (mC (.str (cs "some")))) (sSeq (sAsgU [(.name 3), (.name 4), (.name 5)] (mVar 2))
    (sRet (mOp gPlus (mCall (F 59) (mCons (mVar 5) (mCons (mTup (mCons (mC (.str (cs "row"))) (mCons (mC (.str (cs "any"))) (mCons (mC (.str (cs "some"))) mNil)))) mNil))) (mGetN cn_COUNTS (mTup (mCons (mVar 3) (mCons (mVar 4) mNil))))))) sNx)
    (sRet (mOp gPlus (mOp gPlus (mOp gPlus (mOp gPlus (mC (.str (cs "<"))) (mOp gIx (mVar 2) (mC (.int 0)))) (mC (.str (cs ":")))) (mCall (F 60) (mCons (mOp gIx (mVar 2) (mC (.int 1))) mNil))) (mC (.str (cs ">"))))))))))
def b__law_deck (F : Nat → List Val → M Val) : SM :=
    (sRet (mNew (mLst (mCons (mNew (mLc (mSrc (mSl (mVar 0) mNoPart (mPart (mC (.int 63))))) (.name 1) mYes (mUn gAbs (mVar 1)) [1])) (mCons (mC (.int 0)) mNil)))))
def b__law_draw (F : Nat → List Val → M Val) : SM :=
    (sSeq (sSub (mVar 0) (mC (.int 1)) (mOp gPlus (mOp gIx (mVar 0) (mC (.int 1))) (mC (.int 1))))
    (sSeq (sAsg (.name 2) (mC (.int 0)))
    (sSeq (sAsg (.name 3) (mUn gNeg (mC (.int 1))))
    (sSeq (sIf (mTst (gCmp fun i j => decide (j < i)) (mUn gLen (mOp gIx (mVar 0) (mC (.int 0)))) (mC (.int 0))) (sSeq (sAsg (.name 3) (mOp gMod (mOp gIx (mVar 0) (mC (.int 1))) (mUn gLen (mOp gIx (mVar 0) (mC (.int 0))))))
    (sAsg (.name 2) (mOp gIx (mOp gIx (mVar 0) (mC (.int 0))) (mVar 3)))) sNx)
    (sSeq (sIf (mTst (gCmp fun i j => decide (j ≤ i)) (mVar 2) (mOp gPow (mC (.int 10)) (mC (.int 18)))) (sSeq (sSub (mOp gIx (mVar 0) (mC (.int 0))) (mVar 3) (mOp gDiv (mVar 2) (mVar 1)))
    (sRet (mOp gMod (mVar 2) (mVar 1)))) sNx)
    (sRet (mOp gMod (mOp gMod (mOp gPow (mOp gPlus (mOp gPlus (mOp gMod (mVar 2) (mC (.int 2147483587))) (mOp gTimes (mC (.int 7919)) (mOp gIx (mVar 0) (mC (.int 1))))) (mC (.int 1))) (mC (.int 5))) (mC (.int 2147483647))) (mVar 1))))))))
def b__law_letters (F : Nat → List Val → M Val) : SM :=
    (sRet (mJoin asL (mC (.str (cs ""))) (mLc (mRng1 (mVar 1)) (.name 2) mYes (mOp gIx (mC (.str (cs "abcdefghijklmnopqrstuvwxyz"))) (mCall (F 6) (mCons (mVar 0) (mCons (mC (.int 26)) mNil)))) [2])))
def b__law_names (F : Nat → List Val → M Val) : SM :=
    (sSeq (sAsg (.name 2) (mC (.str (cs "abcdefghijklmnopqrstuvwxyz"))))
    (sSeq (sAsg (.name 3) (mCall (F 32) (mCons (mVar 0) (mCons (mOp gIx (mNew (mLst (mCons (mC (.int 0)) (mCons (mC (.int 0)) (mCons (mC (.int 1)) (mCons (mC (.int 2)) (mCons (mC (.int 3)) (mCons (mC (.int 5)) (mCons (mC (.int 6)) (mCons (mC (.int 7)) mNil)))))))))) (mCall (F 6) (mCons (mVar 0) (mCons (mC (.int 8)) mNil)))) mNil))))
    (sSeq (sAsg (.name 4) (mCall (F 6) (mCons (mVar 0) (mCons (mOp gPlus (mUn gLen (mVar 3)) (mC (.int 1))) mNil))))
    (sSeq (sAsg (.name 5) (mCall (F 6) (mCons (mVar 0) (mCons (mC (.int 26)) mNil))))
    (sSeq (sAsg (.name 6) (mOp gIx (mNew (mLst (mCons (mC (.int 1)) (mCons (mC (.int 3)) (mCons (mC (.int 5)) (mCons (mC (.int 7)) (mCons (mC (.int 9)) (mCons (mC (.int 11)) (mCons (mC (.int 15)) (mCons (mC (.int 17)) mNil)))))))))) (mCall (F 6) (mCons (mVar 0) (mCons (mC (.int 8)) mNil)))))
    (sRet (mNew (mLc (mRng1 (mVar 1)) (.name 7) mYes (mOp gPlus (mOp gPlus (mSl (mVar 3) mNoPart (mPart (mVar 4))) (mOp gIx (mVar 2) (mOp gMod (mOp gPlus (mVar 5) (mOp gTimes (mVar 6) (mVar 7))) (mC (.int 26))))) (mSl (mVar 3) (mPart (mVar 4)) mNoPart)) [7]))))))))
def b__law_signs (F : Nat → List Val → M Val) : SM :=
    (sSeq (sAsg (.name 1) (mC (.str (cs " abcdefghijklmnopqrstuvwxyz"))))
    (sSeq (sAsg (.name 2) (mCall (F 6) (mCons (mVar 0) (mCons (mC (.int 5)) mNil))))
    (sSeq (sAsg (.name 3) (mCall (F 6) (mCons (mVar 0) (mCons (mC (.int 27)) mNil))))
    (sSeq (sIf (mTst (gCmp fun i j => decide (i < j)) (mVar 2) (mC (.int 2))) (sRet (mOp gIx (mVar 1) (mVar 3))) sNx)
    (sSeq (sIf (mEq false datE datE (mVar 2) (mC (.int 2))) (sRet (mVar 1)) sNx)
    (sSeq (sIf (mEq false datE datE (mVar 2) (mC (.int 3))) (sRet (mSl (mVar 1) (mPart (mVar 3)) (mPart (mOp gPlus (mOp gPlus (mVar 3) (mC (.int 1))) (mCall (F 6) (mCons (mVar 0) (mCons (mC (.int 27)) mNil))))))) sNx)
    (sSeq (sAsg (.name 4) (mNew (mLc (mSrc (mVar 1)) (.name 5) (mEq false datE datE (mCall (F 6) (mCons (mVar 0) (mCons (mC (.int 3)) mNil))) (mC (.int 0))) (mVar 5) [5])))
    (sRet (mJoin asE (mC (.str (cs ""))) (mOp gPlus (mVar 4) (mOp gTimes (mNew (mLst (mCons (mOp gIx (mVar 1) (mVar 3)) mNil))) (mUn gInt (mBl (mEq false datE datL (mVar 4) (mLst mNil)))))))))))))))
def b__law_flat (F : Nat → List Val → M Val) : SM :=
    (sSeq (sAsg (.name 2) (mNew (mLst mNil)))
    (sSeq (sFor (mSrc (mVar 0)) (.name 3) (sIf (mEq false datE datE (mOp gIx (mVar 3) (mC (.int 0))) (mVar 1)) (sAsg (.name 2) (mNew (mCat asE asL (mVar 2) (mUnL gLst (mOp gIx (mVar 3) (mC (.int 1))))))) (sApp (mVar 2) (mVar 3))))
    (sRet (mVar 2))))
def b__law_form (F : Nat → List Val → M Val) : SM :=
    (sSeq (sAsg (.name 4) (mCall (F 6) (mCons (mVar 0) (mCons (mC (.int 10)) mNil))))
    (sSeq (sAsg (.name 5) (mOp gIx (mNew (mLst (mCons (mC (.int 2)) (mCons (mC (.int 2)) (mCons (mC (.int 3)) (mCons (mC (.int 4)) mNil)))))) (mCall (F 6) (mCons (mVar 0) (mCons (mC (.int 4)) mNil)))))
    (sSeq (sAsg (.name 6) (mOp gIx (mNew (mLst (mCons (mTup (mCons (mC (.int 0)) (mCons (mC (.int 1)) mNil))) (mCons (mTup (mCons (mC (.int 0)) (mCons (mC .non) mNil))) (mCons (mTup (mCons (mC (.int 1)) (mCons (mC .non) mNil))) mNil))))) (mCall (F 6) (mCons (mVar 0) (mCons (mC (.int 3)) mNil)))))
    (sSeq (sAsg (.name 7) (mCall (F 33) (mCons (mVar 0) mNil)))
    (sSeq (sIf (mEq false datE datE (mVar 4) (mC (.int 9))) (sRet (mTup (mCons (mC (.str (cs "row"))) (mCons (mTup mNil) mNil)))) sNx)
    (sSeq (sIf (mOr (mTst (gCmp fun i j => decide (i < j)) (mVar 4) (mC (.int 2))) (mOr (mTst (gCmp fun i j => decide (i < j)) (mVar 2) (mC (.int 2))) (mTst (gCmp fun i j => decide (i < j)) (mOp gIx (mVar 1) (mC (.int 0))) (mC (.int 4))))) (sRet (mTup (mCons (mC (.str (cs "sign"))) (mCons (mVar 7) mNil)))) sNx)
    (sSeq (sIf (mTst (gCmp fun i j => decide (j < i)) (mVar 4) (mC (.int 6))) (sSeq (sSub (mVar 1) (mC (.int 0)) (mOp gSub (mOp gIx (mVar 1) (mC (.int 0))) (mC (.int 1))))
    (sRet (mTup (mCons (mC (.str (cs "mark"))) (mCons (mOp gIx (mVar 3) (mCall (F 6) (mCons (mVar 0) (mCons (mUn gLen (mVar 3)) mNil)))) (mCons (mCall (F 12) (mCons (mVar 0) (mCons (mVar 1) (mCons (mOp gSub (mVar 2) (mC (.int 1))) (mCons (mVar 3) mNil))))) mNil)))))) sNx)
    (sSeq (sIf (mTst (gCmp fun i j => decide (j < i)) (mVar 4) (mC (.int 4))) (sSeq (sSub (mVar 1) (mC (.int 0)) (mOp gSub (mOp gIx (mVar 1) (mC (.int 0))) (mC (.int 1))))
    (sRet (mTup (mCons (mC (.str (cs "some"))) (mCons (mOp gIx (mVar 6) (mC (.int 0))) (mCons (mOp gIx (mVar 6) (mC (.int 1))) (mCons (mCall (F 12) (mCons (mVar 0) (mCons (mVar 1) (mCons (mOp gSub (mVar 2) (mC (.int 1))) (mCons (mVar 3) mNil))))) mNil))))))) sNx)
    (sSeq (sSub (mVar 1) (mC (.int 0)) (mOp gSub (mOp gIx (mVar 1) (mC (.int 0))) (mVar 5)))
    (sSeq (sAsg (.name 8) (mOp gIx (mNew (mLst (mCons (mC (.str (cs "row"))) (mCons (mC (.str (cs "any"))) mNil)))) (mOp gMod (mVar 4) (mC (.int 2)))))
    (sSeq (sAsg (.name 9) (mCall (F 34) (mCons (mNew (mLc (mRng1 (mVar 5)) (.name 10) mYes (mCall (F 12) (mCons (mVar 0) (mCons (mVar 1) (mCons (mOp gSub (mVar 2) (mC (.int 1))) (mCons (mVar 3) mNil))))) [10])) (mCons (mVar 8) mNil))))
    (sSeq (sIf (mEq false datE datE (mUn gLen (mVar 9)) (mC (.int 1))) (sRet (mOp gIx (mVar 9) (mC (.int 0)))) sNx)
    (sSeq (sIf (mAnd (mEq false datE datL (mVar 9) (mLst mNil)) (mEq false datE datE (mVar 8) (mC (.str (cs "any"))))) (sRet (mTup (mCons (mC (.str (cs "sign"))) (mCons (mVar 7) mNil)))) sNx)
    (sRet (mTup (mCons (mVar 8) (mCons (mUn gTup (mVar 9)) mNil)))))))))))))))))
def b__law_pattern (F : Nat → List Val → M Val) : SM :=
    (sSeq (sAsg (.name 3) (mCall (F 7) (mCons (mVar 0) (mCons (mOp gPlus (mC (.int 1)) (mCall (F 6) (mCons (mVar 0) (mCons (mC (.int 4)) mNil)))) mNil))))
    (sRet (mCall (F 12) (mCons (mVar 0) (mCons (mNew (mLst (mCons (mCall (F 6) (mCons (mVar 0) (mCons (mVar 1) mNil))) mNil))) (mCons (mOp gPlus (mC (.int 1)) (mCall (F 6) (mCons (mVar 0) (mCons (mVar 2) mNil)))) (mCons (mVar 3) mNil)))))))
def b__law_written (F : Nat → List Val → M Val) : SM :=
    (sSeq (sIf (mEq false datE datE (mOp gIx (mVar 0) (mC (.int 0))) (mC (.str (cs "sign")))) (sSeq (sIf (mEq false datE datE (mOp gIx (mVar 0) (mC (.int 1))) (mC (.str (cs " abcdefghijklmnopqrstuvwxyz")))) (sRet (mC (.str (cs ".")))) sNx)
    (sSeq (sIf (mEq false datE datE (mUn gLen (mOp gIx (mVar 0) (mC (.int 1)))) (mC (.int 1))) (sRet (mOp gIx (mVar 0) (mC (.int 1)))) sNx)
    (sRet (mOp gPlus (mOp gPlus (mC (.str (cs "["))) (mOp gIx (mVar 0) (mC (.int 1)))) (mC (.str (cs "]"))))))) sNx)
    (sSeq (sIf (mEq false datE datE (mOp gIx (mVar 0) (mC (.int 0))) (mC (.str (cs "mark")))) (sRet (mOp gPlus (mOp gPlus (mOp gPlus (mOp gPlus (mC (.str (cs "<"))) (mOp gIx (mVar 0) (mC (.int 1)))) (mC (.str (cs ":")))) (mCall (F 61) (mCons (mOp gIx (mVar 0) (mC (.int 2))) mNil))) (mC (.str (cs ">"))))) sNx)
    (sSeq (sIf (mEq false datE datE (mOp gIx (mVar 0) (mC (.int 0))) (mC (.str (cs "some")))) (sSeq (sAsg (.name 1) (mGetN [([.num 0, .num 1], .str (cs "?")), ([.num 0, .none], .str (cs "*")), ([.num 1, .none], .str (cs "+"))] (mSl (mVar 0) (mPart (mC (.int 1))) (mPart (mC (.int 3))))))
    (sSeq (sIf (mOr (mEq false datE datE (mOp gIx (mOp gIx (mVar 0) (mC (.int 3))) (mC (.int 0))) (mC (.str (cs "sign")))) (mEq false datE datE (mOp gIx (mOp gIx (mVar 0) (mC (.int 3))) (mC (.int 0))) (mC (.str (cs "mark"))))) (sRet (mOp gPlus (mCall (F 61) (mCons (mOp gIx (mVar 0) (mC (.int 3))) mNil)) (mVar 1))) sNx)
    (sRet (mOp gPlus (mOp gPlus (mOp gPlus (mC (.str (cs "("))) (mCall (F 61) (mCons (mOp gIx (mVar 0) (mC (.int 3))) mNil))) (mC (.str (cs ")")))) (mVar 1))))) sNx)
    (sSeq (sAsg (.name 2) (mNew (mLst mNil)))
    (sSeq (sFor (mSrc (mOp gIx (mVar 0) (mC (.int 1)))) (.name 3) (sSeq (sAsg (.name 4) (mCall (F 61) (mCons (mVar 3) mNil)))
    (sSeq (sIf (mAnd (mEq false datE datE (mOp gIx (mVar 0) (mC (.int 0))) (mC (.str (cs "row")))) (mEq false datE datE (mOp gIx (mVar 3) (mC (.int 0))) (mC (.str (cs "any"))))) (sAsg (.name 4) (mOp gPlus (mOp gPlus (mC (.str (cs "("))) (mVar 4)) (mC (.str (cs ")"))))) sNx)
    (sApp (mVar 2) (mVar 4)))))
    (sRet (mJoin asE (mOp gIx (mNew (mLst (mCons (mC (.str (cs ""))) (mCons (mC (.str (cs "|"))) mNil)))) (mUn gInt (mBl (mEq false datE datE (mOp gIx (mVar 0) (mC (.int 0))) (mC (.str (cs "any"))))))) (mVar 2))))))))
def b__law_right (F : Nat → List Val → M Val) : SM :=
    (sSeq (sAsg (.name 1) (mUn gRepr (mVar 0)))
    (sSeq (sAsg (.name 2) (mCall (F 60) (mCons (mVar 0) mNil)))
    (sRet (mAndV (mIsi "str" (mVar 2)) (mAndV (mBl (mEq false datE datE (mVar 2) (mCall (F 61) (mCons (mVar 0) mNil)))) (mBl (mEq false datE datE (mUn gRepr (mVar 0)) (mVar 1))))))))
def b_law_2 (F : Nat → List Val → M Val) : SM :=
    (sRet (mBl (mEq false datL datL (mLc (mSrc (mOp gPlus (mVar 2) (mUn gRevA (mVar 2)))) (.name 4) (mNot (mTru (mCall (F 18) (mCons (mVar 4) mNil)))) (mVar 4) [4]) (mLst mNil))))
def b_law_1 (F : Nat → List Val → M Val) : SM :=
    (sSeq (sAsg (.name 2) (mNew (mLc (mRng1 (mC (.int 5))) (.name 3) mYes (mCall (F 35) (mCons (mVar 1) (mCons (mC (.int 59)) (mCons (mC (.int 10)) mNil)))) [3])))
    (b_law_2 F))
def b_law (F : Nat → List Val → M Val) : SM :=
    (sSeq (sAsg (.name 1) (mCall (F 5) (mCons (mVar 0) mNil)))
    (b_law_1 F))
def body (F : Nat → List Val → M Val) : Nat → List Val → M Val
  | 5 => trm (runF 1 2 (b__law_deck F))
  | 6 => trm (runF 2 4 (b__law_draw F))
  | 7 => trm (runF 2 8 (b__law_names F))
  | 12 => trm (runF 4 11 (b__law_form F))
  | 18 => trm (runF 1 3 (b__law_right F))
  | 19 => trm (runF 1 5 (b_law F))
  | 32 => trm (runF 2 3 (b__law_letters F))
  | 33 => trm (runF 1 6 (b__law_signs F))
  | 34 => trm (runF 2 4 (b__law_flat F))
  | 35 => trm (runF 3 4 (b__law_pattern F))
  | 58 => trm (runF 1 1 (b_sign_text F))
  | 59 => trm (runF 2 3 (b_within F))
  | 60 => trm (runF 1 6 (b_write F))
  | 61 => trm (runF 1 5 (b__law_written F))
  | _ => fun _ _ => .bad
def Fn : Nat → Nat → List Val → M Val
  | 0 => fun _ _ _ => .bad
  | n + 1 => body (Fn n)
theorem fn_sign_text (n : Nat) : Fn (n + 1) 58 = trm (runF 1 1 (b_sign_text (Fn n))) := rfl
theorem fn_within (n : Nat) : Fn (n + 1) 59 = trm (runF 2 3 (b_within (Fn n))) := rfl
theorem fn_write (n : Nat) : Fn (n + 1) 60 = trm (runF 1 6 (b_write (Fn n))) := rfl
theorem fn__law_deck (n : Nat) : Fn (n + 1) 5 = trm (runF 1 2 (b__law_deck (Fn n))) := rfl
theorem fn__law_draw (n : Nat) : Fn (n + 1) 6 = trm (runF 2 4 (b__law_draw (Fn n))) := rfl
theorem fn__law_letters (n : Nat) : Fn (n + 1) 32 = trm (runF 2 3 (b__law_letters (Fn n))) := rfl
theorem fn__law_names (n : Nat) : Fn (n + 1) 7 = trm (runF 2 8 (b__law_names (Fn n))) := rfl
theorem fn__law_signs (n : Nat) : Fn (n + 1) 33 = trm (runF 1 6 (b__law_signs (Fn n))) := rfl
theorem fn__law_flat (n : Nat) : Fn (n + 1) 34 = trm (runF 2 4 (b__law_flat (Fn n))) := rfl
theorem fn__law_form (n : Nat) : Fn (n + 1) 12 = trm (runF 4 11 (b__law_form (Fn n))) := rfl
theorem fn__law_pattern (n : Nat) : Fn (n + 1) 35 = trm (runF 3 4 (b__law_pattern (Fn n))) := rfl
theorem fn__law_written (n : Nat) : Fn (n + 1) 61 = trm (runF 1 5 (b__law_written (Fn n))) := rfl
theorem fn__law_right (n : Nat) : Fn (n + 1) 18 = trm (runF 1 3 (b__law_right (Fn n))) := rfl
theorem fn_law (n : Nat) : Fn (n + 1) 19 = trm (runF 1 5 (b_law (Fn n))) := rfl
end Mx.K07

set_option linter.all false
set_option maxRecDepth 100000
set_option maxHeartbeats 4000000
namespace Mx
open L2 PySem
/-! ### == in a run -/
theorem datE_non (S : Sto) : datE .non S = some .none := rfl
theorem dp_ii (a b : Int) : (min (PyData.depth (.int a)) (PyData.depth (.int b)) ≤ 64) = True := eq_true (dep_int a b)
theorem dp_bb (a b : Bool) : (min (PyData.depth (.bool a)) (PyData.depth (.bool b)) ≤ 64) = True := eq_true (dep_bl a b)
theorem dp_ss (a b : Str) : (min (PyData.depth (.str a)) (PyData.depth (.str b)) ≤ 64) = True := eq_true (by simp only [PyData.depth]; omega)
theorem dp_ni (b : Int) : (min (PyData.depth .none) (PyData.depth (.int b)) ≤ 64) = True := eq_true (by simp only [PyData.depth]; omega)
theorem dp_in (b : Int) : (min (PyData.depth (.int b)) (PyData.depth .none) ≤ 64) = True := eq_true (by simp only [PyData.depth]; omega)
theorem ev_ii (a b : Int) : PyData.eqv (.int a) (.int b) = decide (a = b) := by rw [eqv_int]; rfl
theorem ev_bb (a b : Bool) : PyData.eqv (.bool a) (.bool b) = decide (a = b) := by rw [eqv_bl]; rfl
theorem ev_ss (a b : List Nat) : PyData.eqv (.str ⟨a.toArray⟩) (.str ⟨b.toArray⟩) = decide (a = b) := by
  have e : PyData.eqv (.str ⟨a.toArray⟩) (.str ⟨b.toArray⟩) = ((⟨a.toArray⟩ : Str) == ⟨b.toArray⟩) := by simp only [PyData.eqv]
  rw [e, Bool.eq_iff_iff, beq_iff_eq, decide_eq_true_eq]
  constructor
  · intro h
    have h2 := congrArg (fun s : Str => s.cps.toList) h
    simpa using h2
  · intro h; rw [h]
theorem ev_ni (b : Int) : PyData.eqv .none (.int b) = false := by simp only [PyData.eqv]
theorem ev_in (b : Int) : PyData.eqv (.int b) .none = false := by simp only [PyData.eqv]
theorem ne_sign_row : decide (cs "sign" = cs "row") = false := by decide +kernel
theorem ne_sign_any : decide (cs "sign" = cs "any") = false := by decide +kernel
theorem ne_sign_some : decide (cs "sign" = cs "some") = false := by decide +kernel
theorem ne_sign_mark : decide (cs "sign" = cs "mark") = false := by decide +kernel
theorem ne_row_sign : decide (cs "row" = cs "sign") = false := by decide +kernel
theorem ne_row_any : decide (cs "row" = cs "any") = false := by decide +kernel
theorem ne_row_some : decide (cs "row" = cs "some") = false := by decide +kernel
theorem ne_row_mark : decide (cs "row" = cs "mark") = false := by decide +kernel
theorem ne_any_sign : decide (cs "any" = cs "sign") = false := by decide +kernel
theorem ne_any_row : decide (cs "any" = cs "row") = false := by decide +kernel
theorem ne_any_some : decide (cs "any" = cs "some") = false := by decide +kernel
theorem ne_any_mark : decide (cs "any" = cs "mark") = false := by decide +kernel
theorem ne_some_sign : decide (cs "some" = cs "sign") = false := by decide +kernel
theorem ne_some_row : decide (cs "some" = cs "row") = false := by decide +kernel
theorem ne_some_any : decide (cs "some" = cs "any") = false := by decide +kernel
theorem ne_some_mark : decide (cs "some" = cs "mark") = false := by decide +kernel
theorem ne_mark_sign : decide (cs "mark" = cs "sign") = false := by decide +kernel
theorem ne_mark_row : decide (cs "mark" = cs "row") = false := by decide +kernel
theorem ne_mark_any : decide (cs "mark" = cs "any") = false := by decide +kernel
theorem ne_mark_some : decide (cs "mark" = cs "some") = false := by decide +kernel
/-! ### patterns -/
inductive Pat where
  | sign (z : List Nat) | row (ps : List Pat) | any (ps : List Pat) | some (lo : Nat) (hi : Bool) (p : Pat) | mark (nm : List Nat) (p : Pat)
mutual
def enc : Pat → Val
  | .sign z => .tup [.str (cs "sign"), .str z]
  | .row ps => .tup [.str (cs "row"), .tup (encs ps)]
  | .any ps => .tup [.str (cs "any"), .tup (encs ps)]
  | .some lo hi p => .tup [.str (cs "some"), .int lo, (if hi then .int 1 else .non), enc p]
  | .mark nm p => .tup [.str (cs "mark"), .str nm, enc p]
def encs : List Pat → List Val
  | [] => []
  | p :: ps => enc p :: encs ps
end
mutual
def dep : Pat → Nat
  | .sign _ => 1
  | .row ps => deps ps + 1
  | .any ps => deps ps + 1
  | .some _ _ p => dep p + 1
  | .mark _ p => dep p + 1
def deps : List Pat → Nat
  | [] => 0
  | p :: ps => max (dep p) (deps ps)
end
theorem encs_map : ∀ ps, encs ps = ps.map enc
  | [] => rfl
  | p :: ps => by rw [encs, encs_map ps]; rfl
theorem encs_len (ps : List Pat) : (encs ps).length = ps.length := by rw [encs_map, List.length_map]
theorem deps_mem : ∀ {ps : List Pat} {p : Pat}, p ∈ ps → dep p ≤ deps ps
  | q :: ps, p, h => by
    rw [deps]
    rcases List.mem_cons.mp h with rfl | h
    · omega
    · have := deps_mem h; omega
/-! ### what a way comes to -/
mutual
def wend (t : List Nat) : Pat → Val → Nat → Option Nat
  | .sign z, w, at_ => match w, t[at_]? with
    | .int i, some c => if i = (at_ : Int) ∧ c ∈ z then some (at_ + 1) else none
    | _, _ => none
  | .row ps, w, at_ => match w with
    | .tup ws => if ws.length = ps.length then wends t ps ws at_ else none
    | _ => none
  | .any ps, w, at_ => match w with
    | .tup [.int k, w] => if 0 ≤ k ∧ k < (ps.length : Int) then wnth t ps k.toNat w at_ else none
    | _ => none
  | .some lo hi p, w, at_ => match w with
    | .tup ws => if lo ≤ ws.length ∧ (hi = true → ws.length ≤ 1) then wrep (wend t p) ws at_ else none
    | _ => none
  | .mark _ p, w, at_ => wend t p w at_
def wends (t : List Nat) : List Pat → List Val → Nat → Option Nat
  | [], _, at_ => some at_
  | p :: ps, ws, at_ => match ws with
    | w :: ws => match wend t p w at_ with
      | some a => wends t ps ws a
      | none => none
    | [] => none
def wnth (t : List Nat) : List Pat → Nat → Val → Nat → Option Nat
  | [], _, _, _ => none
  | p :: ps, k, w, at_ => match k with
    | 0 => wend t p w at_
    | k + 1 => wnth t ps k w at_
def wrep (f : Val → Nat → Option Nat) : List Val → Nat → Option Nat
  | [], at_ => some at_
  | w :: ws, at_ => match f w at_ with
    | some a => wrep f ws a
    | none => none
end
end Mx

set_option linter.all false
set_option maxRecDepth 100000
set_option maxHeartbeats 4000000
namespace Mx
open L2 PySem
/-! ### patterns that a law's generator makes -/
mutual
def pok : Pat → Bool
  | .sign z => decide (0 < z.length) && decide (z.length ≤ 100)
  | .row ps => decide (ps.length ≤ 200) && poks ps
  | .any ps => decide (0 < ps.length) && decide (ps.length ≤ 200) && poks ps
  | .some lo hi p => decide (lo ≤ 1) && (!hi || decide (lo = 0)) && pok p
  | .mark nm p => decide (nm.length ≤ 100) && pok p
def poks : List Pat → Bool
  | [] => true
  | p :: ps => pok p && poks ps
end
mutual
/-- the most that a way draws, and the longest text that it goes through -/
def wt : Pat → Nat
  | .sign _ => 1
  | .row ps => wts ps + 1
  | .any ps => wts ps + 1
  | .some _ _ p => 3 * wt p + 1
  | .mark _ p => wt p + 1
def wts : List Pat → Nat
  | [] => 0
  | p :: ps => wt p + wts ps
end
theorem poks_mem : ∀ {ps : List Pat} {p : Pat}, poks ps = true → p ∈ ps → pok p = true
  | q :: ps, p, h, hm => by
    rw [poks, Bool.and_eq_true] at h
    rcases List.mem_cons.mp hm with rfl | hm
    · exact h.1
    · exact poks_mem h.2 hm
theorem poks_app : ∀ {ps qs : List Pat}, poks (ps ++ qs) = (poks ps && poks qs)
  | [], qs => rfl
  | p :: ps, qs => by rw [List.cons_append, poks, poks_app, poks, Bool.and_assoc]
theorem wts_app : ∀ {ps qs : List Pat}, wts (ps ++ qs) = wts ps + wts qs
  | [], qs => by rw [List.nil_append, wts]; omega
  | p :: ps, qs => by rw [List.cons_append, wts, wts_app, wts]; omega
theorem deps_app : ∀ {ps qs : List Pat}, deps (ps ++ qs) = max (deps ps) (deps qs)
  | [], qs => by rw [List.nil_append, deps]; omega
  | p :: ps, qs => by rw [List.cons_append, deps, deps_app, deps]; omega
theorem wts_mem : ∀ {ps : List Pat} {p : Pat}, p ∈ ps → wt p ≤ wts ps
  | q :: ps, p, hm => by
    rw [wts]
    rcases List.mem_cons.mp hm with rfl | hm
    · omega
    · have := wts_mem hm; omega
theorem encs_app (ps qs : List Pat) : encs (ps ++ qs) = encs ps ++ encs qs := by rw [encs_map, encs_map, encs_map, List.map_append]
/-- how many parts stand on top -/
def top : Pat → Nat
  | .row ps => ps.length
  | .any ps => ps.length
  | _ => 1
/-- a pattern within bounds -/
structure Gp (B e u : Nat) (p : Pat) : Prop where
  ok : pok p = true
  wt : wt p ≤ B
  dep : dep p ≤ e
  top : top p ≤ u
theorem Gp.mono {B e u B' e' u' : Nat} {p : Pat} (h : Gp B e u p) (a : B ≤ B') (b : e ≤ e') (c : u ≤ u') : Gp B' e' u' p := ⟨h.ok, Nat.le_trans h.wt a, Nat.le_trans h.dep b, Nat.le_trans h.top c⟩
/-- the word on top -/
def word : Pat → List Nat
  | .sign _ => cs "sign"
  | .row _ => cs "row"
  | .any _ => cs "any"
  | .some _ _ _ => cs "some"
  | .mark _ _ => cs "mark"
theorem word_at (p : Pat) : ∃ xs, enc p = .tup (.str (word p) :: xs) := by
  cases p <;> exact ⟨_, rfl⟩
theorem word_row {p : Pat} (h : word p = cs "row") : ∃ ps, p = .row ps := by
  cases p with
  | row ps => exact ⟨ps, rfl⟩
  | sign _ => exact absurd h (of_decide_eq_false ne_sign_row)
  | any _ => exact absurd h (of_decide_eq_false ne_any_row)
  | some _ _ _ => exact absurd h (of_decide_eq_false ne_some_row)
  | mark _ _ => exact absurd h (of_decide_eq_false ne_mark_row)
theorem word_any {p : Pat} (h : word p = cs "any") : ∃ ps, p = .any ps := by
  cases p with
  | any ps => exact ⟨ps, rfl⟩
  | sign _ => exact absurd h (of_decide_eq_false ne_sign_any)
  | row _ => exact absurd h (of_decide_eq_false ne_row_any)
  | some _ _ _ => exact absurd h (of_decide_eq_false ne_some_any)
  | mark _ _ => exact absurd h (of_decide_eq_false ne_mark_any)
end Mx

set_option linter.all false
set_option maxRecDepth 100000
set_option maxHeartbeats 4000000
namespace Mx
open L2 PySem
/-! ### the store grows -/
def Ext (S S' : Sto) : Prop := ∃ T, S' = S ++ T
theorem Ext.refl {S : Sto} : Ext S S := ⟨[], (List.append_nil S).symm⟩
theorem Ext.trans {S S1 S2 : Sto} (a : Ext S S1) (b : Ext S1 S2) : Ext S S2 := by
  obtain ⟨T, rfl⟩ := a
  obtain ⟨T2, rfl⟩ := b
  exact ⟨T ++ T2, List.append_assoc ..⟩
theorem Ext.app {S T : Sto} : Ext S (S ++ T) := ⟨T, rfl⟩
theorem Ext.le {S S1 : Sto} (a : Ext S S1) : S.length ≤ S1.length := by
  obtain ⟨T, rfl⟩ := a
  rw [List.length_append]; omega
theorem Ext.get {S S1 : Sto} {n : Nat} {o : Ob} (a : Ext S S1) (h : S[n]? = some o) : S1[n]? = some o := by
  obtain ⟨T, rfl⟩ := a
  exact app_get h
theorem Ext.dk {S S1 : Sto} {D C m : Nat} (a : Ext S S1) (d : Dk S D C m) : Dk S1 D C m := by
  obtain ⟨T, rfl⟩ := a
  exact d.app
theorem Ext.kp {S S1 : Sto} {D C : Nat} (a : Ext S S1) : Kp S S1 D C := by
  obtain ⟨T, rfl⟩ := a
  exact Kp.app
/-- a run that only adds to the store -/
def Wx {α : Type} (o : Out α) (S : Sto) (P : α → Prop) : Prop := Wp o fun v S' => P v ∧ Ext S S'
theorem wx_trm {g : List Val → M Val} {xs : List Val} {S : Sto} {P : Val → Prop} (h : Wx (g xs S) S P) : Wx (trm g xs S) S P :=
  wp_trm h fun v S1 ⟨p, T, e⟩ _ _ => ⟨p, by rw [e, List.take_left]; exact Ext.refl⟩
theorem Wx.run {α : Type} {o : Out α} {S : Sto} {P : α → Prop} {Q : α → Sto → Prop} (h : Wx o S P) (k : ∀ v S', P v → Ext S S' → Q v S') : Wp o Q := Wp.mono h fun v S' ⟨p, e⟩ => k v S' p e
/-! ### comprehensions of any kind, by what holds at each step -/
theorem compG_inv {α : Type} {src : Src} {tg : Tg} {t : Ev → M Bool} {b : Ev → α → M α} {env0 : Ev} {xs : List Val} (I : Nat → α → Sto → Prop)
    (hi : ∀ i acc S, I i acc S → i < xs.length → src.item S i = xs[i]?) (hf : ∀ acc S, I xs.length acc S → src.fin S = true)
    (step : ∀ i x acc S, xs[i]? = some x → I i acc S → ∃ env2, tgM tg x env0 = some env2 ∧ Wp (t env2 S) fun k S2 => if k = true then Wp (b env2 acc S2) (fun acc' S' => I (i + 1) acc' S') else I (i + 1) acc S2) :
    ∀ (r i : Nat) (acc : α) (S : Sto), i + r = xs.length → I i acc S → Wp (compG src tg t b env0 r i acc S) fun ys S' => I xs.length ys S'
  | 0, i, acc, S, h, hI => by
    have e : i = xs.length := by omega
    subst e
    unfold compG
    rw [if_pos (hf acc S hI)]
    exact hI
  | r + 1, i, acc, S, h, hI => by
    have hl : i < xs.length := by omega
    have hx : xs[i]? = some xs[i] := List.getElem?_eq_getElem hl
    unfold compG
    rw [hi i acc S hI hl, hx]
    obtain ⟨env2, h1, h2⟩ := step i _ acc S hx hI
    simp only [h1, wp_bind]
    refine Wp.mono h2 fun k S2 h3 => ?_
    by_cases hb : k = true
    · rw [if_pos hb] at h3 ⊢
      rw [wp_bind]
      exact Wp.mono h3 fun y S' h5 => compG_inv I hi hf step r (i + 1) _ _ (by omega) h5
    · rw [if_neg hb] at h3 ⊢
      exact compG_inv I hi hf step r (i + 1) _ _ (by omega) h3
/-- where the things come from, in every store that grows from S0 -/
structure SrcOk (src : Src) (xs : List Val) (S0 : Sto) : Prop where
  size : src.size = xs.length
  item : ∀ S i, Ext S0 S → i < xs.length → src.item S i = xs[i]?
  fin : ∀ S, Ext S0 S → src.fin S = true
theorem src_vals {xs : List Val} {S0 : Sto} : SrcOk (.vals xs) xs S0 := ⟨rfl, fun _ _ _ _ => rfl, fun _ _ => rfl⟩
theorem src_live {n : Nat} {xs : List Val} {S0 : Sto} (h : S0[n]? = some (.lst xs)) : SrcOk (.live n xs.length) xs S0 := ⟨rfl, fun _ _ e _ => item_live (e.get h), fun _ e => fin_live (e.get h)⟩
/-- each thing is turned by f where b holds -/
theorem comp_fm {src : Src} {tg : Tg} {t : Ev → M Bool} {e : Ev → M Val} {env : Ev} {xs : List Val} {S0 : Sto} (b : Val → Bool) (f : Val → Val) (hs : SrcOk src xs S0) (hl : xs.length ≤ lim)
    (step : ∀ x ∈ xs, ∃ env2, tgM tg x env = some env2 ∧ ∀ S, Ext S0 S → Wx (t env2 S) S (fun k => k = b x) ∧ (b x = true → Wx (e env2 S) S fun y => y = f x)) :
    Wx (compI src tg t e env xs.length 0 [] S0) S0 fun ys => ys = (xs.filter b).map f := by
  refine Wp.mono (compI_inv (src := src) (xs := xs) (fun i ys S => ys = ((xs.take i).filter b).map f ∧ Ext S0 S) (fun i _ S h hi => hs.item S i h.2 hi) (fun _ S h => hs.fin S h.2) (fun i x acc S hx hI => ?_) xs.length 0 [] S0 (Nat.zero_add _) ⟨rfl, Ext.refl⟩) fun ys S' ⟨e1, e2⟩ => ?_
  · obtain ⟨rfl, hE⟩ := hI
    have hi := (List.getElem?_eq_some_iff.mp hx).1
    have hx' : xs[i] = x := Option.some.inj ((List.getElem?_eq_getElem hi).symm.trans hx)
    obtain ⟨env2, h1, h2⟩ := step x (List.mem_of_getElem? hx)
    refine ⟨env2, h1, ?_⟩
    obtain ⟨h3, h4⟩ := h2 S hE
    have ht : xs.take (i + 1) = xs.take i ++ [x] := by rw [← hx', List.take_append_getElem]
    refine h3.run fun k S2 ek eS => ?_
    subst ek
    by_cases hb : b x = true
    · rw [if_pos hb]
      have hE2 := hE.trans eS
      refine Wx.run ((h2 S2 hE2).2 hb) fun y S3 ey eS3 => ?_
      subst ey
      have l1 := List.length_filter_le b (xs.take i)
      rw [List.length_take] at l1
      refine ⟨by rw [List.length_map]; omega, ?_, hE2.trans eS3⟩
      rw [ht, List.filter_append, List.map_append, List.filter_cons, if_pos hb]; rfl
    · rw [if_neg hb]
      refine ⟨?_, hE.trans eS⟩
      rw [ht, List.filter_append, List.filter_cons, if_neg hb, List.filter_nil, List.append_nil]
  · rw [List.take_length] at e1
    exact ⟨e1, e2⟩
theorem comp_map {src : Src} {tg : Tg} {e : Ev → M Val} {env : Ev} {xs : List Val} {S0 : Sto} (f : Val → Val) (hs : SrcOk src xs S0) (hl : xs.length ≤ lim)
    (step : ∀ x ∈ xs, ∃ env2, tgM tg x env = some env2 ∧ ∀ S, Ext S0 S → Wx (e env2 S) S fun y => y = f x) :
    Wx (compI src tg mYes e env xs.length 0 [] S0) S0 fun ys => ys = xs.map f := by
  refine Wx.run (comp_fm (fun _ => true) f hs hl fun x hx => ?_) fun ys S' e1 e2 => ⟨?_, e2⟩
  · obtain ⟨env2, h1, h2⟩ := step x hx
    exact ⟨env2, h1, fun S hE => ⟨⟨rfl, Ext.refl⟩, fun _ => h2 S hE⟩⟩
  · rw [e1, List.filter_eq_self.mpr fun _ _ => rfl]
/-! ### sets of keys -/
theorem addAll_mem : ∀ (ks L : List Key) (k : Key), k ∈ addAll L ks ↔ k ∈ L ∨ k ∈ ks
  | [], L, k => by show k ∈ L ↔ _; simp
  | j :: ks, L, k => by
    show k ∈ addAll (addK L j) ks ↔ _
    rw [addAll_mem ks]
    have h : k ∈ addK L j ↔ k ∈ L ∨ k = j := by
      unfold addK
      by_cases hj : memK L j = true
      · rw [if_pos hj]
        exact ⟨.inl, fun h => h.elim (fun h => h) fun h => h ▸ memK_iff.mp hj⟩
      · rw [if_neg hj]; simp
    rw [h, List.mem_cons]
    exact ⟨fun h => h.elim (fun h => h.elim .inl fun h => .inr (.inl h)) fun h => .inr (.inr h), fun h => h.elim (fun h => .inl (.inl h)) fun h => h.elim (fun h => .inl (.inr h)) .inr⟩
theorem addAll_same {ks js : List Key} (h : ∀ k, k ∈ ks ↔ k ∈ js) : (addAll [] ks).Perm (addAll [] js) := by
  refine (List.perm_ext_iff_of_nodup (addAll_nodup ks [] List.Pairwise.nil) (addAll_nodup js [] List.Pairwise.nil)).mpr fun k => ?_
  rw [addAll_mem, addAll_mem, h]
/-- a text as a key -/
def sK (z : List Nat) : Key := .inr ⟨z.toArray⟩
theorem sK_inj {a b : List Nat} (h : sK a = sK b) : a = b := by
  have h1 : (⟨a.toArray⟩ : Str) = ⟨b.toArray⟩ := Sum.inr.inj h
  have h2 := congrArg (fun s : Str => s.cps.toList) h1
  simpa using h2
theorem kVal_s (z : List Nat) : kVal (sK z) = .str z := by simp [kVal, sK]
theorem asKey_s (z : List Nat) : asKey (.str z) = some (sK z) := rfl
theorem asKeys_s : ∀ zs : List (List Nat), asKeys (zs.map Val.str) = some (zs.map sK)
  | [] => rfl
  | z :: zs => by rw [List.map_cons, asKeys, asKeys_s zs]; rfl
/-- the texts of a list, rising, each once -/
def srt (zs : List (List Nat)) : List Val := (sortK (addAll [] (zs.map sK))).map kVal
theorem okK_s (zs : List (List Nat)) : okK (addAll [] (zs.map sK)) = true := by
  unfold okK
  rw [Bool.or_eq_true]
  refine .inr (List.all_eq_true.mpr fun k hk => ?_)
  rw [addAll_mem] at hk
  rcases hk with hk | hk
  · cases hk
  · obtain ⟨z, _, rfl⟩ := List.mem_map.mp hk
    rfl
theorem srt_same {zs ys : List (List Nat)} (h : ∀ z, z ∈ zs ↔ z ∈ ys) : srt zs = srt ys := by
  unfold srt
  have hk : ∀ k, k ∈ zs.map sK ↔ k ∈ ys.map sK := fun k => by
    simp only [List.mem_map]
    exact ⟨fun ⟨z, a, b⟩ => ⟨z, (h z).mp a, b⟩, fun ⟨z, a, b⟩ => ⟨z, (h z).mpr a, b⟩⟩
  rw [sortK_perm (okK_s ys) (addAll_same hk)]
theorem srt_len (zs : List (List Nat)) : (srt zs).length ≤ zs.length := by
  unfold srt sortK
  rw [List.length_map, (List.mergeSort_perm _ _).length_eq]
  have := addAll_len (zs.map sK) []
  rw [List.length_map] at this
  simpa using this
theorem srt_str (zs : List (List Nat)) : ∃ ys : List (List Nat), srt zs = ys.map Val.str ∧ ∀ y, y ∈ ys ↔ y ∈ zs := by
  refine ⟨(sortK (addAll [] (zs.map sK))).map fun k => match k with | .inr x => x.cps.toList | .inl _ => [], ?_, fun y => ?_⟩
  · unfold srt
    rw [List.map_map]
    refine List.map_congr_left fun k hk => ?_
    have hk : k ∈ addAll [] (zs.map sK) := (List.mergeSort_perm _ _).mem_iff.mp hk
    rw [addAll_mem] at hk
    rcases hk with hk | hk
    · cases hk
    · obtain ⟨z, _, rfl⟩ := List.mem_map.mp hk
      rfl
  · rw [List.mem_map]
    constructor
    · rintro ⟨k, hk, e⟩
      have hk : k ∈ addAll [] (zs.map sK) := (List.mergeSort_perm _ _).mem_iff.mp hk
      rw [addAll_mem] at hk
      rcases hk with hk | hk
      · cases hk
      · obtain ⟨z, hz, rfl⟩ := List.mem_map.mp hk
        have e : z.toArray.toList = y := e
        rw [List.toList_toArray] at e
        exact e ▸ hz
    · intro hy
      refine ⟨sK y, (List.mergeSort_perm _ _).mem_iff.mpr ((addAll_mem _ _ _).mpr (.inr (List.mem_map.mpr ⟨y, hy, rfl⟩))), ?_⟩
      show y.toArray.toList = y
      rw [List.toList_toArray]
theorem asKeys_kVal (L : List Key) : asKeys (L.map kVal) = some L := asKeys_map L
/-- sorted(set) of texts -/
theorem sortS_s {m : Ev → M (List Val)} {env : Ev} {S S1 : Sto} {zs : List (List Nat)} (h : m env S = .ok ((addAll [] (zs.map sK)).map kVal) S1) : mSortS m env S = .ok (srt zs) S1 := by
  unfold mSortS
  rw [h]
  simp only [Out.bind, asKeys_kVal, okK_s, if_true]
  rfl
theorem set_s {α : Type} {L : α → Sto → Option (List Val)} {m : Ev → M α} {env : Ev} {S S1 : Sto} {x : α} {zs : List (List Nat)} (h : m env S = .ok x S1) (hx : L x S1 = some (zs.map Val.str)) (hl : zs.length < 4095) : mSet L m env S = .ok ((addAll [] (zs.map sK)).map kVal) S1 := by
  unfold mSet
  rw [h]
  have c : (zs.map sK).length + 1 < 4096 := by rw [List.length_map]; omega
  simp only [Out.bind, hx, Option.bind_some, asKeys_s, if_pos c]
theorem bAdd_s {me : Ev → M Val} {env : Ev} {S S1 : Sto} {zs : List (List Nat)} {z : List Nat} (h : me env S = .ok (.str z) S1) (hl : zs.length < 4095) : bAdd me env ((addAll [] (zs.map sK)).map kVal) S = .ok ((addAll [] ((zs ++ [z]).map sK)).map kVal) S1 := by
  unfold bAdd
  rw [h]
  have c : ((addAll [] (zs.map sK)).map kVal).length + 1 < 4096 := by
    have := addAll_len (zs.map sK) []
    rw [List.length_map] at this ⊢
    simp at this
    omega
  simp only [Out.bind, asKey_s, asKeys_kVal, if_pos c]
  rw [List.map_append, List.map_cons, List.map_nil, addAll_snoc]
/-- {x for x in texts} -/
theorem sc_names {src : Src} {j : Nat} {env : Ev} {zs : List (List Nat)} {S0 : Sto} (hs : SrcOk src (zs.map Val.str) S0) (hj : j < env.length) (hl : zs.length < 4095) :
    compG src (.name j) mYes (bAdd (mVar j)) env (zs.map Val.str).length 0 [] S0 = .ok ((addAll [] (zs.map sK)).map kVal) S0 := by
  suffices w : Wp (compG src (.name j) mYes (bAdd (mVar j)) env (zs.map Val.str).length 0 [] S0) fun v S => v = ((addAll [] (zs.map sK)).map kVal) ∧ S = S0 by
    obtain ⟨a, S, e, rfl, rfl⟩ := w.ex
    exact e
  refine Wp.mono (compG_inv (src := src) (xs := zs.map Val.str) (fun i acc S => acc = ((addAll [] ((zs.take i).map sK)).map kVal) ∧ S = S0) (fun i _ S h hi => h.2 ▸ hs.item _ i Ext.refl hi) (fun _ S h => h.2 ▸ hs.fin _ Ext.refl) (fun i x acc S hx hI => ?_) (zs.map Val.str).length 0 [] S0 (Nat.zero_add _) ⟨rfl, rfl⟩) fun ys S' ⟨e1, e2⟩ => ?_
  · obtain ⟨rfl, rfl⟩ := hI
    have hi := (List.getElem?_eq_some_iff.mp hx).1
    rw [List.length_map] at hi
    rw [List.getElem?_map, List.getElem?_eq_getElem hi] at hx
    have hx := Option.some.inj hx
    subst hx
    refine ⟨env.set j (some (.str zs[i])), rfl, ?_⟩
    have hv : mVar j (env.set j (some (.str zs[i]))) S = .ok (.str zs[i]) S := by
      unfold mVar
      rw [List.getElem?_set_self hj]
    simp only [mYes, wp_ok, if_true]
    rw [bAdd_s hv (by rw [List.length_take]; omega)]
    refine ⟨?_, rfl⟩
    rw [List.take_append_getElem]
  · rw [List.length_map, List.take_length] at e1
    exact ⟨e1, e2⟩
end Mx

set_option linter.all false
set_option maxRecDepth 100000
set_option maxHeartbeats 4000000
namespace Mx
open L2 PySem
theorem enc_sign (z : List Nat) : enc (.sign z) = .tup [.str (cs "sign"), .str z] := rfl
theorem enc_row (ps : List Pat) : enc (.row ps) = .tup [.str (cs "row"), .tup (encs ps)] := rfl
theorem enc_any (ps : List Pat) : enc (.any ps) = .tup [.str (cs "any"), .tup (encs ps)] := rfl
theorem enc_some (lo : Nat) (hi : Bool) (p : Pat) : enc (.some lo hi p) = .tup [.str (cs "some"), .int lo, (if hi then .int 1 else .non), enc p] := rfl
theorem enc_mark (nm : List Nat) (p : Pat) : enc (.mark nm p) = .tup [.str (cs "mark"), .str nm, enc p] := rfl
theorem at0_ {x : Val} {xs : List Val} : atI (x :: xs) 0 = some x := by
  unfold atI ixN
  simp
theorem atN_ {α : Type} {xs : List α} {k : Nat} (h : k < xs.length) : atI xs (k : Int) = some xs[k] := by
  obtain ⟨z, h1, h2, _⟩ := atI_nat (xs := xs) (i := (k : Int)) (by omega) (by omega)
  rw [h1, ← h2]
  exact List.getElem?_eq_getElem h
theorem at1_ {x y : Val} {xs : List Val} : atI (x :: y :: xs) 1 = some y := atN_ (xs := x :: y :: xs) (k := 1) (by simp)
theorem at2_ {x y z : Val} {xs : List Val} : atI (x :: y :: z :: xs) 2 = some z := atN_ (xs := x :: y :: z :: xs) (k := 2) (by simp)
theorem at3_ {x y z w : Val} {xs : List Val} : atI (x :: y :: z :: w :: xs) 3 = some w := atN_ (xs := x :: y :: z :: w :: xs) (k := 3) (by simp)
theorem atm3 {x y z : Val} : atI [x, y, z] (-1) = some z := rfl
theorem atm4 {x y z w : Val} : atI [x, y, z, w] (-1) = some w := rfl
theorem in_two {nm a b : List Nat} {S : Sto} : gIn false (.str nm) (.tup [.str a, .str b]) S = .ok (decide (a = nm) || decide (b = nm)) S := by
  have hd : (PyData.str ⟨nm.toArray⟩).depth ≤ 64 := by simp [PyData.depth]
  have e : gIn false (.str nm) (.tup [.str a, .str b]) S = (match datE (.str nm) S, datVs (fun m => dat S deep (.loc m)) [.str a, .str b] with
    | some d, some ds => if d.depth ≤ 64 then .ok (if false = true then !ds.any (fun y => PyData.eqv y d) else ds.any fun y => PyData.eqv y d) S else .bad
    | _, _ => .bad) := by
    cases nm with
    | nil => rfl
    | cons c t => cases t <;> rfl
  have e2 : datVs (fun m => dat S deep (.loc m)) [.str a, .str b] = some [.str ⟨a.toArray⟩, .str ⟨b.toArray⟩] := rfl
  rw [e, datE_str, e2]
  simp only [hd, if_true, Bool.false_eq_true, if_false, List.any_cons, List.any_nil, ev_ss, Bool.or_false]
/-- one thing behind another is put to a list -/
theorem app_all {src : Src} {j : Nat} {env : Ev} {xs acc : List Val} {S0 : Sto} (hs : SrcOk src xs S0) (hj : j < env.length) (hl : acc.length + xs.length ≤ lim) :
    compG src (.name j) mYes (bApp (mVar j)) env xs.length 0 acc S0 = .ok (acc ++ xs) S0 := by
  suffices w : Wp (compG src (.name j) mYes (bApp (mVar j)) env xs.length 0 acc S0) fun v S => v = acc ++ xs ∧ S = S0 by
    obtain ⟨a, S, e, rfl, rfl⟩ := w.ex
    exact e
  refine Wp.mono (compG_inv (src := src) (xs := xs) (fun i a S => a = acc ++ xs.take i ∧ S = S0) (fun i _ S h hi => h.2 ▸ hs.item _ i Ext.refl hi) (fun _ S h => h.2 ▸ hs.fin _ Ext.refl) (fun i x a S hx hI => ?_) xs.length 0 acc S0 (Nat.zero_add _) ⟨by rw [List.take_zero, List.append_nil], rfl⟩) fun ys S' ⟨e1, e2⟩ => ?_
  · obtain ⟨rfl, rfl⟩ := hI
    have hi := (List.getElem?_eq_some_iff.mp hx).1
    rw [List.getElem?_eq_getElem hi] at hx
    have hx := Option.some.inj hx
    subst hx
    refine ⟨env.set j (some xs[i]), rfl, ?_⟩
    have hv : mVar j (env.set j (some xs[i])) S = .ok xs[i] S := by
      unfold mVar
      rw [List.getElem?_set_self hj]
    have c : (acc ++ xs.take i).length < lim := by rw [List.length_append, List.length_take]; omega
    simp only [mYes, wp_ok, if_true, bApp, hv, wp_bind, if_pos c]
    refine ⟨?_, trivial⟩
    rw [List.append_assoc, List.take_append_getElem]
  · rw [List.take_length] at e1
    exact ⟨e1, e2⟩
/-! ### the parts of a pattern -/
def prts : Pat → List Pat
  | .sign _ => []
  | .row ps => ps
  | .any ps => ps
  | .some _ _ p => [p]
  | .mark _ p => [p]
mutual
/-- how many forms there are -/
def sz : Pat → Nat
  | .sign _ => 1
  | .row ps => szs ps + 1
  | .any ps => szs ps + 1
  | .some _ _ p => sz p + 1
  | .mark _ p => sz p + 1
def szs : List Pat → Nat
  | [] => 0
  | p :: ps => sz p + szs ps
end
theorem sz_pos (p : Pat) : 1 ≤ sz p := by cases p <;> rw [sz] <;> omega
theorem szs_len : ∀ ps : List Pat, ps.length ≤ szs ps
  | [] => Nat.le_refl _
  | p :: ps => by rw [szs, List.length_cons]; have := sz_pos p; have := szs_len ps; omega
theorem szs_app : ∀ {ps qs : List Pat}, szs (ps ++ qs) = szs ps + szs qs
  | [], qs => by rw [List.nil_append, szs]; omega
  | p :: ps, qs => by rw [List.cons_append, szs, szs_app, szs]; omega
theorem szs_mem : ∀ {ps : List Pat} {p : Pat}, p ∈ ps → sz p ≤ szs ps
  | q :: ps, p, hm => by
    rw [szs]
    rcases List.mem_cons.mp hm with rfl | hm
    · omega
    · have := szs_mem hm; omega
theorem prts_sz (p : Pat) : szs (prts p) + 1 ≤ sz p := by
  cases p <;> simp only [prts, szs, sz] <;> omega
theorem prts_dep {d : Nat} {p q : Pat} (h : dep p ≤ d + 1) (hq : q ∈ prts p) : dep q ≤ d := by
  cases p with
  | sign z => cases hq
  | row ps => have := deps_mem (show q ∈ ps from hq); simp only [dep] at h; omega
  | any ps => have := deps_mem (show q ∈ ps from hq); simp only [dep] at h; omega
  | some lo hi p => rw [List.mem_singleton.mp hq]; simp only [dep] at h; omega
  | mark nm p => rw [List.mem_singleton.mp hq]; simp only [dep] at h; omega
theorem dep_pos (p : Pat) : 1 ≤ dep p := by cases p <;> rw [dep] <;> omega
mutual
/-- the names of the marks, the inner ones first -/
def mkP : Pat → List (List Nat)
  | .sign _ => []
  | .row ps => mkPs ps
  | .any ps => mkPs ps
  | .some _ _ p => mkP p
  | .mark nm p => mkP p ++ [nm]
def mkPs : List Pat → List (List Nat)
  | [] => []
  | p :: ps => mkP p ++ mkPs ps
end
mutual
theorem mkP_len : ∀ p : Pat, (mkP p).length ≤ sz p
  | .sign _ => by simp [mkP]
  | .row ps => by rw [mkP, sz]; have := mkPs_len ps; omega
  | .any ps => by rw [mkP, sz]; have := mkPs_len ps; omega
  | .some _ _ p => by rw [mkP, sz]; have := mkP_len p; omega
  | .mark _ p => by rw [mkP, sz, List.length_append, List.length_singleton]; have := mkP_len p; omega
theorem mkPs_len : ∀ ps : List Pat, (mkPs ps).length ≤ szs ps
  | [] => Nat.le_refl _
  | p :: ps => by rw [mkPs, szs, List.length_append]; have := mkP_len p; have := mkPs_len ps; omega
end
theorem mkPs_app : ∀ ps qs : List Pat, mkPs (ps ++ qs) = mkPs ps ++ mkPs qs
  | [], qs => rfl
  | p :: ps, qs => by rw [List.cons_append, mkPs, mkPs_app ps qs, mkPs, List.append_assoc]
theorem mkP_prts (p : Pat) : mkP p = mkPs (prts p) ++ (match p with | .mark nm _ => [nm] | _ => []) := by
  cases p <;> simp [mkP, prts, mkPs]
end Mx

set_option linter.all false
set_option maxRecDepth 100000
set_option maxHeartbeats 4000000
namespace Mx
open L2 PySem
theorem ok_of {α : Type} {o : Out α} {x : α} {S : Sto} (h : Wp o fun v S' => v = x ∧ S' = S) : o = .ok x S := by
  obtain ⟨a, S', e, rfl, rfl⟩ := h.ex
  exact e
theorem trm_of {g : List Val → M Val} {xs : List Val} {x : Val} {S : Sto} (h : Wp (g xs S) fun v S' => v = x ∧ S' = S) : trm g xs S = .ok x S := trm_pure (ok_of h)
/-! ### values without places -/
mutual
def pureV : Val → Bool
  | .tup xs => pureVs xs
  | .kl xs => pureVs xs
  | .loc _ => false
  | .ext _ => false
  | _ => true
def pureVs : List Val → Bool
  | [] => true
  | x :: xs => pureV x && pureVs xs
end
mutual
def dv : Val → PyData
  | .non => .none
  | .bl b => .bool b
  | .int i => .int i
  | .str x => .str ⟨x.toArray⟩
  | .tup xs => .tuple (dvs xs)
  | .kl xs => .list (dvs xs)
  | .loc _ => .none
  | .ext _ => .none
def dvs : List Val → List PyData
  | [] => []
  | x :: xs => dv x :: dvs xs
end
mutual
theorem datV_pure (f : Nat → Option PyData) : ∀ v, pureV v = true → datV f v = some (dv v)
  | .non, _ => rfl
  | .bl _, _ => rfl
  | .int _, _ => rfl
  | .str _, _ => rfl
  | .tup xs, h => by rw [datV, datVs_pure f xs h]; rfl
  | .kl xs, h => by rw [datV, datVs_pure f xs h]; rfl
  | .loc _, h => by cases h
  | .ext _, h => by cases h
theorem datVs_pure (f : Nat → Option PyData) : ∀ xs, pureVs xs = true → datVs f xs = some (dvs xs)
  | [], _ => rfl
  | x :: xs, h => by
    rw [pureVs, Bool.and_eq_true] at h
    rw [datVs, datV_pure f x h.1, datVs_pure f xs h.2]; rfl
end
theorem dvs_len : ∀ xs, (dvs xs).length = xs.length
  | [] => rfl
  | x :: xs => by rw [dvs, List.length_cons, List.length_cons, dvs_len xs]
theorem datE_pure {v : Val} {S : Sto} (h : pureV v = true) : datE v S = some (dv v) := datV_pure _ v h
theorem datL_pure {xs : List Val} {S : Sto} (h : pureVs xs = true) : datL xs S = some (.list (dvs xs)) := by unfold datL; rw [datVs_pure _ xs h]; rfl
theorem datE_loc {n : Nat} {xs : List Val} {S : Sto} (h0 : S[n]? = some (.lst xs)) (h : pureVs xs = true) : datE (.loc n) S = some (.list (dvs xs)) := by
  show (match S[n]? with
    | some (.lst xs) => (datVs (match dat S 19 with | g => fun m => g (.loc m)) xs).map PyData.list
    | _ => none) = _
  rw [h0]
  simp only [datVs_pure _ xs h]; rfl
theorem eqv_nil (ds : List PyData) : PyData.eqv (.list ds) (.list []) = ds.isEmpty := by cases ds <;> simp [PyData.eqv, PyData.eqvAll]
theorem dep_nil (d : PyData) : (min d.depth (PyData.depth (.list [])) ≤ 64) = True := eq_true (by
  have : PyData.depth (.list []) ≤ 64 := by simp [PyData.depth, PyData.depthAll]
  omega)
theorem datL_nil (S : Sto) : datL [] S = some (.list []) := rfl
theorem dvs_emp (xs : List Val) : (dvs xs).isEmpty = xs.isEmpty := by cases xs <;> rfl
theorem pureVs_all : ∀ {xs : List Val}, (∀ x ∈ xs, pureV x = true) → pureVs xs = true
  | [], _ => rfl
  | x :: xs, h => by rw [pureVs, h x List.mem_cons_self, pureVs_all fun y hy => h y (List.mem_cons_of_mem _ hy)]; rfl
theorem pureVs_mem : ∀ {xs : List Val} {x : Val}, pureVs xs = true → x ∈ xs → pureV x = true
  | y :: xs, x, h, hm => by
    rw [pureVs, Bool.and_eq_true] at h
    rcases List.mem_cons.mp hm with rfl | hm
    · exact h.1
    · exact pureVs_mem h.2 hm
theorem pureVs_strs (zs : List (List Nat)) : pureVs (zs.map Val.str) = true := pureVs_all fun x hx => by
  obtain ⟨z, _, rfl⟩ := List.mem_map.mp hx
  rfl
mutual
theorem pure_enc : ∀ p, pureV (enc p) = true
  | .sign _ => rfl
  | .row ps => by simp [enc, pureV, pureVs, pure_encs ps]
  | .any ps => by simp [enc, pureV, pureVs, pure_encs ps]
  | .some lo hi p => by cases hi <;> simp [enc, pureV, pureVs, pure_enc p]
  | .mark _ p => by simp [enc, pureV, pureVs, pure_enc p]
theorem pure_encs : ∀ ps, pureVs (encs ps) = true
  | [] => rfl
  | p :: ps => by simp [encs, pureVs, pure_enc p, pure_encs ps]
end
end Mx

set_option linter.all false
set_option maxRecDepth 100000
set_option maxHeartbeats 4000000
namespace Mx
open L2 PySem
theorem comp_fmA {α : Type} {src : Src} {tg : Tg} {t : Ev → M Bool} {e : Ev → M Val} {env : Ev} {ps : List α} {en : α → Val} {S0 : Sto} (b : α → Bool) (f : α → Val) (hs : SrcOk src (ps.map en) S0) (hl : ps.length ≤ lim)
    (step : ∀ x ∈ ps, ∃ env2, tgM tg (en x) env = some env2 ∧ ∀ S, Ext S0 S → Wx (t env2 S) S (fun k => k = b x) ∧ (b x = true → Wx (e env2 S) S fun y => y = f x)) :
    Wx (compI src tg t e env (ps.map en).length 0 [] S0) S0 fun ys => ys = (ps.filter b).map f := by
  refine Wp.mono (compI_inv (src := src) (xs := ps.map en) (fun i ys S => ys = ((ps.take i).filter b).map f ∧ Ext S0 S) (fun i _ S h hi => hs.item S i h.2 hi) (fun _ S h => hs.fin S h.2) (fun i x acc S hx hI => ?_) (ps.map en).length 0 [] S0 (Nat.zero_add _) ⟨rfl, Ext.refl⟩) fun ys S' ⟨e1, e2⟩ => ?_
  · obtain ⟨rfl, hE⟩ := hI
    have hi := (List.getElem?_eq_some_iff.mp hx).1
    rw [List.length_map] at hi
    rw [List.getElem?_map, List.getElem?_eq_getElem hi] at hx
    have hx := Option.some.inj hx
    subst hx
    obtain ⟨env2, h1, h2⟩ := step ps[i] (List.getElem_mem hi)
    refine ⟨env2, h1, ?_⟩
    obtain ⟨h3, h4⟩ := h2 S hE
    have ht : ps.take (i + 1) = ps.take i ++ [ps[i]] := (List.take_append_getElem hi).symm
    refine h3.run fun k S2 ek eS => ?_
    subst ek
    by_cases hb : b ps[i] = true
    · rw [if_pos hb]
      have hE2 := hE.trans eS
      refine Wx.run ((h2 S2 hE2).2 hb) fun y S3 ey eS3 => ?_
      subst ey
      have l1 := List.length_filter_le b (ps.take i)
      rw [List.length_take] at l1
      refine ⟨by rw [List.length_map]; omega, ?_, hE2.trans eS3⟩
      rw [ht, List.filter_append, List.map_append, List.filter_cons, if_pos hb]; rfl
    · rw [if_neg hb]
      refine ⟨?_, hE.trans eS⟩
      rw [ht, List.filter_append, List.filter_cons, if_neg hb, List.filter_nil, List.append_nil]
  · rw [List.length_map, List.take_length] at e1
    exact ⟨e1, e2⟩
theorem comp_mapA {α : Type} {src : Src} {tg : Tg} {e : Ev → M Val} {env : Ev} {ps : List α} {en : α → Val} {S0 : Sto} (f : α → Val) (hs : SrcOk src (ps.map en) S0) (hl : ps.length ≤ lim)
    (step : ∀ x ∈ ps, ∃ env2, tgM tg (en x) env = some env2 ∧ ∀ S, Ext S0 S → Wx (e env2 S) S fun y => y = f x) :
    Wx (compI src tg mYes e env (ps.map en).length 0 [] S0) S0 fun ys => ys = ps.map f := by
  refine Wx.run (comp_fmA (fun _ => true) f hs hl fun x hx => ?_) fun ys S' e1 e2 => ⟨?_, e2⟩
  · obtain ⟨env2, h1, h2⟩ := step x hx
    exact ⟨env2, h1, fun S hE => ⟨⟨rfl, Ext.refl⟩, fun _ => h2 S hE⟩⟩
  · rw [e1, List.filter_eq_self.mpr fun _ _ => rfl]
theorem asBls_mapA {α : Type} (f : α → Bool) : ∀ ps : List α, asBls (ps.map fun p => Val.bl (f p)) = some (ps.map f)
  | [] => rfl
  | p :: ps => by rw [List.map_cons, asBls, asBls_mapA f ps]; rfl
theorem lAll_map {α : Type} (f : α → Bool) (ps : List α) (S : Sto) : lAll (ps.map fun p => Val.bl (f p)) S = .ok (.bl (ps.all f)) S := by
  unfold lAll; rw [asBls_mapA]; simp only [List.all_map]; rfl
theorem lAny_map {α : Type} (f : α → Bool) (ps : List α) (S : Sto) : lAny (ps.map fun p => Val.bl (f p)) S = .ok (.bl (ps.any f)) S := by
  unfold lAny; rw [asBls_mapA]; simp only [List.any_map]; rfl
theorem isT_NoneType_int : isT "NoneType" "int" = false := rfl
theorem isT_NoneType_bool : isT "NoneType" "bool" = false := rfl
theorem isT_NoneType_str : isT "NoneType" "str" = false := rfl
theorem isT_NoneType_tuple : isT "NoneType" "tuple" = false := rfl
theorem isT_NoneType_list : isT "NoneType" "list" = false := rfl
theorem isT_NoneType_dict : isT "NoneType" "dict" = false := rfl
theorem isT_bool_int : isT "bool" "int" = true := rfl
theorem isT_bool_bool : isT "bool" "bool" = true := rfl
theorem isT_bool_str : isT "bool" "str" = false := rfl
theorem isT_bool_tuple : isT "bool" "tuple" = false := rfl
theorem isT_bool_list : isT "bool" "list" = false := rfl
theorem isT_bool_dict : isT "bool" "dict" = false := rfl
theorem isT_int_int : isT "int" "int" = true := rfl
theorem isT_int_bool : isT "int" "bool" = false := rfl
theorem isT_int_str : isT "int" "str" = false := rfl
theorem isT_int_tuple : isT "int" "tuple" = false := rfl
theorem isT_int_list : isT "int" "list" = false := rfl
theorem isT_int_dict : isT "int" "dict" = false := rfl
theorem isT_str_int : isT "str" "int" = false := rfl
theorem isT_str_bool : isT "str" "bool" = false := rfl
theorem isT_str_str : isT "str" "str" = true := rfl
theorem isT_str_tuple : isT "str" "tuple" = false := rfl
theorem isT_str_list : isT "str" "list" = false := rfl
theorem isT_str_dict : isT "str" "dict" = false := rfl
theorem isT_tuple_int : isT "tuple" "int" = false := rfl
theorem isT_tuple_bool : isT "tuple" "bool" = false := rfl
theorem isT_tuple_str : isT "tuple" "str" = false := rfl
theorem isT_tuple_tuple : isT "tuple" "tuple" = true := rfl
theorem isT_tuple_list : isT "tuple" "list" = false := rfl
theorem isT_tuple_dict : isT "tuple" "dict" = false := rfl
theorem isT_list_int : isT "list" "int" = false := rfl
theorem isT_list_bool : isT "list" "bool" = false := rfl
theorem isT_list_str : isT "list" "str" = false := rfl
theorem isT_list_tuple : isT "list" "tuple" = false := rfl
theorem isT_list_list : isT "list" "list" = true := rfl
theorem isT_list_dict : isT "list" "dict" = false := rfl
theorem isT_dict_int : isT "dict" "int" = false := rfl
theorem isT_dict_bool : isT "dict" "bool" = false := rfl
theorem isT_dict_str : isT "dict" "str" = false := rfl
theorem isT_dict_tuple : isT "dict" "tuple" = false := rfl
theorem isT_dict_list : isT "dict" "list" = false := rfl
theorem isT_dict_dict : isT "dict" "dict" = true := rfl
/-! ### can the empty text be gone through? -/
mutual
def bP : Pat → Bool
  | .sign _ => false
  | .row ps => bPa ps
  | .any ps => bPo ps
  | .some lo _ p => decide (lo = 0) || bP p
  | .mark _ p => bP p
def bPa : List Pat → Bool
  | [] => true
  | p :: ps => bP p && bPa ps
def bPo : List Pat → Bool
  | [] => false
  | p :: ps => bP p || bPo ps
end
theorem bPa_all : ∀ ps, bPa ps = ps.all bP
  | [] => rfl
  | p :: ps => by rw [bPa, bPa_all ps, List.all_cons]
theorem bPo_any : ∀ ps, bPo ps = ps.any bP
  | [] => rfl
  | p :: ps => by rw [bPo, bPo_any ps, List.any_cons]
theorem filter_len_all {α : Type} (f : α → Bool) : ∀ ps : List α, decide ((ps.filter f).length = ps.length) = ps.all f
  | [] => rfl
  | p :: ps => by
    have := filter_len_all f ps
    have l := List.length_filter_le f ps
    rw [List.filter_cons, List.all_cons]
    cases h : f p with
    | true =>
      rw [if_pos rfl, ← this, List.length_cons, List.length_cons, Bool.true_and]
      exact decide_eq_decide.mpr (by omega)
    | false =>
      rw [if_neg (by decide), Bool.false_and, List.length_cons]
      exact decide_eq_false (by omega)
theorem filter_emp_any {α : Type} (f : α → Bool) : ∀ ps : List α, (ps.filter f).isEmpty = !ps.any f
  | [] => rfl
  | p :: ps => by
    rw [List.filter_cons, List.any_cons]
    cases h : f p with
    | true => rfl
    | false => rw [if_neg (by decide), Bool.false_or]; exact filter_emp_any f ps
mutual
/-- the names of the marks, the outer ones first -/
def mkL : Pat → List (List Nat)
  | .sign _ => []
  | .row ps => mkLs ps
  | .any ps => mkLs ps
  | .some _ _ p => mkL p
  | .mark nm p => nm :: mkL p
def mkLs : List Pat → List (List Nat)
  | [] => []
  | p :: ps => mkL p ++ mkLs ps
end
mutual
theorem mkL_mem (x : List Nat) : ∀ p, x ∈ mkL p ↔ x ∈ mkP p
  | .sign _ => Iff.rfl
  | .row ps => mkLs_mem x ps
  | .any ps => mkLs_mem x ps
  | .some _ _ p => mkL_mem x p
  | .mark nm p => by
    have := mkL_mem x p
    rw [mkL, mkP, List.mem_cons, List.mem_append, List.mem_singleton, this]
    exact ⟨fun h => h.elim .inr .inl, fun h => h.elim .inr .inl⟩
theorem mkLs_mem (x : List Nat) : ∀ ps, x ∈ mkLs ps ↔ x ∈ mkPs ps
  | [] => Iff.rfl
  | p :: ps => by rw [mkLs, mkPs, List.mem_append, List.mem_append, mkL_mem x p, mkLs_mem x ps]
end
mutual
theorem mkL_len : ∀ p, (mkL p).length = (mkP p).length
  | .sign _ => rfl
  | .row ps => mkLs_len ps
  | .any ps => mkLs_len ps
  | .some _ _ p => mkL_len p
  | .mark nm p => by rw [mkL, mkP, List.length_cons, List.length_append, mkL_len p]; rfl
theorem mkLs_len : ∀ ps, (mkLs ps).length = (mkPs ps).length
  | [] => rfl
  | p :: ps => by rw [mkLs, mkPs, List.length_append, List.length_append, mkL_len p, mkLs_len ps]
end
theorem mkLs_app : ∀ ps qs : List Pat, mkLs (ps ++ qs) = mkLs ps ++ mkLs qs
  | [], qs => rfl
  | p :: ps, qs => by rw [List.cons_append, mkLs, mkLs_app ps qs, mkLs, List.append_assoc]
end Mx

set_option linter.all false
set_option maxRecDepth 100000
set_option maxHeartbeats 4000000
namespace Mx
open L2 PySem
/-- all is kept but the deck and the list at L -/
structure Kq (S S' : Sto) (D C L : Nat) : Prop where
  le : S.length ≤ S'.length
  get : ∀ n, n < S.length → n ≠ D → n ≠ C → n ≠ L → S'[n]? = S[n]?
theorem kq_of {S S' : Sto} {D C L : Nat} (h : Kp S S' D C) : Kq S S' D C L := ⟨h.le, fun n l d c _ => h.get n l d c⟩
theorem Kq.trans {S S1 S2 : Sto} {D C L : Nat} (a : Kq S S1 D C L) (b : Kq S1 S2 D C L) : Kq S S2 D C L := ⟨Nat.le_trans a.le b.le, fun n h d c l => by rw [b.get n (Nat.lt_of_lt_of_le h a.le) d c l, a.get n h d c l]⟩
theorem Kq.app {S S1 T : Sto} {D C L : Nat} (h : Kq S S1 D C L) : Kq S (S1 ++ T) D C L := h.trans (kq_of Kp.app)
theorem Kq.set {S S1 : Sto} {D C L : Nat} {o : Ob} (h : Kq S S1 D C L) : Kq S (S1.set L o) D C L := ⟨by rw [List.length_set]; exact h.le, fun n l d c e => by rw [List.getElem?_set_ne (Ne.symm e)]; exact h.get n l d c e⟩
theorem Kq.take {S S1 : Sto} {D C L : Nat} (h : Kq S S1 D C L) : Kq S (S1.take S.length) D C L := ⟨by rw [List.length_take]; have := h.le; omega, fun n l d c e => by rw [List.getElem?_take_of_lt l]; exact h.get n l d c e⟩
theorem Ext.kq {S S1 : Sto} {D C L : Nat} (a : Ext S S1) : Kq S S1 D C L := kq_of a.kp
theorem dk_set_ne {S : Sto} {D C m k : Nat} {o : Ob} (h : Dk S D C m) (d : k ≠ D) (c : k ≠ C) : Dk (S.set k o) D C m := by
  obtain ⟨a, cs, h1, h2, r⟩ := h.ex
  exact ⟨a, cs, by rw [List.getElem?_set_ne d]; exact h1, by rw [List.getElem?_set_ne c]; exact h2, r⟩
/-- what was added is changed -/
theorem Ext.set {S S1 : Sto} {n : Nat} {o : Ob} (h : Ext S S1) (l : S.length ≤ n) : Ext S (S1.set n o) := by
  obtain ⟨T, rfl⟩ := h
  exact ⟨T.set (n - S.length) o, by rw [List.set_append_right _ _ l]⟩
theorem mem_upTo {n : Nat} {x : Val} (h : x ∈ upTo 0 n) : ∃ i : Nat, i < n ∧ x = .int (i : Int) := by
  obtain ⟨i, hi, rfl⟩ := List.mem_map.mp h
  exact ⟨i, List.mem_range.mp hi, by rw [Int.zero_add]⟩
theorem upTo_at {n i : Nat} {x : Val} (h : (upTo 0 n)[i]? = some x) : i < n ∧ x = .int (i : Int) := by
  have hi : i < n := by rw [← upTo_len (lo := 0) (n := n)]; exact (List.getElem?_eq_some_iff.mp h).1
  refine ⟨hi, ?_⟩
  unfold upTo at h
  rw [List.getElem?_map, List.getElem?_range hi] at h
  simp at h
  exact h.symm
/-- a drawn one of a list that was just laid -/
theorem pick_ix {S S2 : Sto} {xs : List Val} {D C m : Nat} {i : Int} (hd : Dk S D C m) (k : Kp (S ++ [.lst xs]) S2 D C) (h0 : 0 ≤ i) (h1 : i < (xs.length : Nat)) : ∃ x, x ∈ xs ∧ gIx (.loc S.length) (.int i) S2 = .ok x S2 := by
  obtain ⟨x, x1, x2, _⟩ := atI_nat (xs := xs) h0 h1
  refine ⟨x, List.mem_of_getElem? x2, ?_⟩
  have e : S2[S.length]? = some (.lst xs) := (k.get _ (by rw [List.length_append]; simp) (by have := hd.ltD; omega) (by have := hd.ltC; omega)).trans app_new
  simp only [gIx, e, x1]
theorem kp_pick {S S2 : Sto} {xs : List Val} {D C : Nat} (k : Kp (S ++ [.lst xs]) S2 D C) : Kp S S2 D C := Kp.app.trans k
theorem ix_str {z : List Nat} {i : Int} {S : Sto} (hz : z.length ≤ 100000) (h0 : 0 ≤ i) (h1 : i < (z.length : Nat)) : ∃ c, c ∈ z ∧ gIx (.str z) (.int i) S = .ok (.str [c]) S := by
  obtain ⟨x, x1, x2, _⟩ := atI_nat (xs := z) h0 h1
  refine ⟨x, List.mem_of_getElem? x2, ?_⟩
  have : z.length ≤ lim := hz
  simp only [gIx, if_pos this, x1]
theorem ix_strA {z : List Nat} {i : Int} (hz : z.length ≤ 100000) (h0 : 0 ≤ i) (h1 : i < (z.length : Nat)) : ∃ c, c ∈ z ∧ ∀ S, gIx (.str z) (.int i) S = .ok (.str [c]) S := by
  obtain ⟨x, x1, x2, _⟩ := atI_nat (xs := z) h0 h1
  refine ⟨x, List.mem_of_getElem? x2, fun S => ?_⟩
  have : z.length ≤ lim := hz
  simp only [gIx, if_pos this, x1]
theorem ix_loc {S : Sto} {q : Nat} {xs : List Val} {i : Int} (e : S[q]? = some (.lst xs)) (h0 : 0 ≤ i) (h1 : i < (xs.length : Nat)) : ∃ x, x ∈ xs ∧ gIx (.loc q) (.int i) S = .ok x S := by
  obtain ⟨x, x1, x2, _⟩ := atI_nat (xs := xs) h0 h1
  exact ⟨x, List.mem_of_getElem? x2, by simp only [gIx, e, x1]⟩
theorem draws_var {g : List Val → M Val} (hg : DrS g) {z : List Nat} {k : Int} {env : Ev} {D C m n j j2 : Nat} {S : Sto} (hz : (z.length : Int) = k) (hz1 : z.length ≤ lim) (hk : 0 < k) (he : env[0]? = some (some (.loc D))) (hj : 0 < j) (he2 : env[j2]? = some (some (.str z))) (hj2 : j2 ≠ j)
    (hd : Dk S D C m) (hm : m + n ≤ 2 ^ 40) (hn : n ≤ lim) :
    Wp (compI (.vals (upTo 0 n)) (.name j) mYes (mOp gIx (mVar j2) (mCall g (mCons (mVar 0) (mCons (mC (.int k)) mNil)))) env n 0 [] S)
      fun ys S' => Dk S' D C (m + n) ∧ Kp S S' D C ∧ ∃ w : List Nat, ys = w.map (fun c => Val.str [c]) ∧ w.length = n ∧ ∀ c ∈ w, c ∈ z := by
  have hl : (upTo 0 n).length = n := upTo_len
  refine Wp.mono (compI_inv (xs := upTo 0 n) (fun i ys S' => Dk S' D C (m + i) ∧ Kp S S' D C ∧ ∃ w : List Nat, ys = w.map (fun c => Val.str [c]) ∧ w.length = i ∧ ∀ c ∈ w, c ∈ z) (fun _ _ _ _ _ => rfl) (fun _ _ _ => rfl) (fun i x acc S1 hx hI => ?_) n 0 [] S (by omega) ⟨hd, Kp.refl, [], rfl, rfl, fun _ h => by cases h⟩) fun ys S' h => by rw [hl] at h; exact h
  obtain ⟨d1, k1, w, rfl, w1, w2⟩ := hI
  have hi : i < n := by rw [← hl]; exact (List.getElem?_eq_some_iff.mp hx).1
  have q1 : (env.set j (some x))[0]? = some (some (.loc D)) := by rw [List.getElem?_set_ne (by omega)]; exact he
  have q2 : (env.set j (some x))[j2]? = some (some (.str z)) := by rw [List.getElem?_set_ne (Ne.symm hj2)]; exact he2
  refine ⟨env.set j (some x), rfl, ?_⟩
  simp only [mYes, wp_ok, if_true, mOp, mC, mCall, mCons, mVar, mNil, q1, q2, wp_bind]
  refine hg.go d1 (by omega) hk (by have : lim = 100000 := rfl; omega) fun v S2 h0 h1 d2 k2 => ?_
  obtain ⟨c, c1, c2, c3⟩ := atI_nat (xs := z) h0 (by omega)
  simp only [gIx, hz1, if_true, c1, wp_ok]
  refine ⟨by rw [List.length_map, w1]; omega, d2, k1.trans k2, w ++ [c], by simp, by simp [w1], fun y hy => ?_⟩
  rcases List.mem_append.mp hy with hy | hy
  · exact w2 y hy
  · rw [List.mem_singleton.mp hy]; exact List.mem_of_getElem? c2
end Mx

set_option linter.all false
set_option maxRecDepth 100000
set_option maxHeartbeats 4000000
namespace Mx
open L2 PySem
mutual
def vok (n : Nat) : Val → Bool
  | .tup xs => decide (xs.length ≤ 1000) && voks n xs
  | .loc m => decide (m < n)
  | .ext _ => false
  | .kl _ => false
  | _ => true
def voks (n : Nat) : List Val → Bool
  | [] => true
  | x :: xs => vok n x && voks n xs
end
mutual
theorem vok_le {n m : Nat} (h : n ≤ m) : ∀ v, vok n v = true → vok m v = true
  | .tup xs, e => by
    rw [vok, Bool.and_eq_true] at e ⊢
    exact ⟨e.1, voks_le h xs e.2⟩
  | .loc k, e => by
    rw [vok, decide_eq_true_eq] at e ⊢
    omega
  | .ext _, e => by cases e
  | .kl _, e => by cases e
  | .non, _ => rfl
  | .bl _, _ => rfl
  | .int _, _ => rfl
  | .str _, _ => rfl
theorem voks_le {n m : Nat} (h : n ≤ m) : ∀ v, voks n v = true → voks m v = true
  | [], _ => rfl
  | x :: xs, e => by
    rw [voks, Bool.and_eq_true] at e ⊢
    exact ⟨vok_le h x e.1, voks_le h xs e.2⟩
end
theorem voks_at {n : Nat} : ∀ {xs : List Val} {i : Nat} {x : Val}, voks n xs = true → xs[i]? = some x → vok n x = true
  | [], i, x, _, e => by simp at e
  | y :: ys, 0, x, h, e => by
    rw [voks, Bool.and_eq_true] at h
    simp at e
    rw [← e]; exact h.1
  | y :: ys, i + 1, x, h, e => by
    rw [voks, Bool.and_eq_true] at h
    exact voks_at h.2 (by simpa using e)
def isI : Val → Bool
  | .int _ => true
  | _ => false
def isTup : Val → Bool
  | .tup _ => true
  | _ => false
def resV : Option Nat → Val
  | none => .non
  | some a => .int a
def goes : List (Val → Nat → Option Nat) → List Val → Nat → Option Nat
  | [], _, at_ => some at_
  | f :: fs, ws, at_ => match ws with
    | w :: ws => match f w at_ with
      | some a => goes fs ws a
      | none => none
    | [] => none
theorem wends_goes (t : List Nat) : ∀ ps ws at_, wends t ps ws at_ = goes (ps.map (wend t)) ws at_
  | [], ws, at_ => by rw [wends]; rfl
  | p :: ps, [], at_ => by rw [wends]; rfl
  | p :: ps, w :: ws, at_ => by
    rw [wends, List.map_cons, goes]
    cases wend t p w at_ with
    | none => rfl
    | some a => exact wends_goes t ps ws a
theorem wrep_goes (f : Val → Nat → Option Nat) : ∀ ws at_, wrep f ws at_ = goes (List.replicate ws.length f) ws at_
  | [], at_ => by rw [wrep]; rfl
  | w :: ws, at_ => by
    rw [wrep, List.length_cons, List.replicate_succ, goes]
    cases f w at_ with
    | none => rfl
    | some a => exact wrep_goes f ws a
theorem enc_f {lo : Nat} {p : Pat} : enc (.some lo false p) = .tup [.str (cs "some"), .int lo, .non, enc p] := rfl
theorem enc_t {lo : Nat} {p : Pat} : enc (.some lo true p) = .tup [.str (cs "some"), .int lo, .int 1, enc p] := rfl
theorem wnth_at (t : List Nat) : ∀ (ps : List Pat) (k : Nat) (h : k < ps.length) w a, wnth t ps k w a = wend t ps[k] w a
  | p :: ps, 0, _, w, a => by rw [wnth]; rfl
  | p :: ps, k + 1, h, w, a => by
    rw [wnth]
    exact wnth_at t ps k (by rw [List.length_cons] at h; omega) w a
theorem wt_pos : ∀ p, 1 ≤ wt p
  | .sign _ => by rw [wt]; omega
  | .row _ => by rw [wt]; omega
  | .any _ => by rw [wt]; omega
  | .some _ _ _ => by rw [wt]; omega
  | .mark _ _ => by rw [wt]; omega
theorem wends_snoc (t : List Nat) : ∀ {ps : List Pat} {ws : List Val} {p : Pat} {w : Val} {a b : Nat}, ps.length = ws.length → wends t ps ws a = some b → wends t (ps ++ [p]) (ws ++ [w]) a = wend t p w b
  | [], [], p, w, a, b, _, h => by
    rw [wends] at h
    cases h
    rw [List.nil_append, List.nil_append, wends]
    cases wend t p w a with
    | none => rfl
    | some c => simp only [wends]
  | q :: ps, u :: ws, p, w, a, b, hl, h => by
    rw [wends] at h
    rw [List.cons_append, List.cons_append, wends]
    cases hq : wend t q u a with
    | none => rw [hq] at h; cases h
    | some c =>
      rw [hq] at h
      exact wends_snoc t (by simpa using hl) h
theorem wrep_wends (t : List Nat) (p : Pat) (ws : List Val) (a : Nat) : wrep (wend t p) ws a = wends t (List.replicate ws.length p) ws a := by
  rw [wrep_goes, wends_goes, List.map_replicate]
theorem voks_app {n : Nat} : ∀ {xs ys : List Val}, voks n (xs ++ ys) = (voks n xs && voks n ys)
  | [], ys => rfl
  | x :: xs, ys => by rw [List.cons_append, voks, voks_app, voks, Bool.and_assoc]
theorem kp_set_new {S S1 : Sto} {D C k : Nat} {o : Ob} (h : Kp S S1 D C) (hk : S.length ≤ k) : Kp S (S1.set k o) D C :=
  ⟨by rw [List.length_set]; exact h.le, fun n l d c => by rw [List.getElem?_set_ne (by omega)]; exact h.get n l d c⟩
theorem wts_rep (p : Pat) : ∀ r, wts (List.replicate r p) = r * wt p
  | 0 => by rw [Nat.zero_mul]; rfl
  | r + 1 => by rw [List.replicate_succ, wts, wts_rep p r, Nat.succ_mul]; omega
theorem poks_rep {p : Pat} (h : pok p = true) : ∀ r, poks (List.replicate r p) = true
  | 0 => rfl
  | r + 1 => by rw [List.replicate_succ, poks, poks_rep h r, h]; rfl
theorem deps_rep {p : Pat} {d : Nat} (h : dep p ≤ d) : ∀ r, deps (List.replicate r p) ≤ d
  | 0 => Nat.zero_le _
  | r + 1 => by
    have := deps_rep h r
    rw [List.replicate_succ, deps]
    omega
theorem int_nat (a b : Nat) : ((a : Int) = (b : Int)) = (a = b) := propext ⟨fun h => by omega, fun h => by omega⟩
theorem ext_trm {g : List Val → M Val} {xs : List Val} {S : Sto} {P : Val → Prop} (h : Wp (g xs S) fun v S' => P v ∧ Ext S S') : Wp (trm g xs S) fun v S' => P v ∧ Ext S S' := wx_trm h
/-! ### the pieces of a way -/
abbrev Pc := List Nat × Nat × Nat
def pcV (c : Pc) : Val := .tup [.str c.1, .int (c.2.1 : Nat), .int (c.2.2 : Nat)]
mutual
/-- where a way comes to, its pieces -/
def wk : Pat → Val → Nat → Nat × List Pc
  | .sign _, _, a => (a + 1, [])
  | .row ps, w, a => match w with
    | .tup ws => wks ps ws a
    | _ => (a, [])
  | .any ps, w, a => match w with
    | .tup [.int k, w] => wkn ps k.toNat w a
    | _ => (a, [])
  | .some _ _ p, w, a => match w with
    | .tup ws => wkr (wk p) ws a
    | _ => (a, [])
  | .mark nm p, w, a => ((wk p w a).1, (wk p w a).2 ++ [(nm, a, (wk p w a).1)])
def wks : List Pat → List Val → Nat → Nat × List Pc
  | [], _, a => (a, [])
  | p :: ps, ws, a => match ws with
    | [] => (a, [])
    | w :: ws => ((wks ps ws (wk p w a).1).1, (wk p w a).2 ++ (wks ps ws (wk p w a).1).2)
def wkn : List Pat → Nat → Val → Nat → Nat × List Pc
  | [], _, _, a => (a, [])
  | p :: ps, k, w, a => match k with
    | 0 => wk p w a
    | k + 1 => wkn ps k w a
def wkr (f : Val → Nat → Nat × List Pc) : List Val → Nat → Nat × List Pc
  | [], a => (a, [])
  | w :: ws, a => ((wkr f ws (f w a).1).1, (f w a).2 ++ (wkr f ws (f w a).1).2)
end
theorem wkr_wks (p : Pat) : ∀ (ws : List Val) (a : Nat), wkr (wk p) ws a = wks (List.replicate ws.length p) ws a
  | [], a => by rw [wkr]; rfl
  | w :: ws, a => by rw [wkr, wkr_wks p ws, List.length_cons, List.replicate_succ, wks]
theorem wkn_at : ∀ (ps : List Pat) (k : Nat) (h : k < ps.length) (w : Val) (a : Nat), wkn ps k w a = wk ps[k] w a
  | p :: ps, 0, _, w, a => by rw [wkn]; rfl
  | p :: ps, k + 1, h, w, a => by rw [wkn]; exact wkn_at ps k (by simpa using h) w a
theorem wks_snoc : ∀ {ps : List Pat} {ws : List Val} {p : Pat} {w : Val} {a : Nat}, ps.length = ws.length → wks (ps ++ [p]) (ws ++ [w]) a = ((wk p w (wks ps ws a).1).1, (wks ps ws a).2 ++ (wk p w (wks ps ws a).1).2)
  | [], [], p, w, a, _ => by
    rw [List.nil_append, List.nil_append, wks, wks, wks, List.append_nil, List.nil_append]
  | q :: ps, u :: ws, p, w, a, hl => by
    rw [List.cons_append, List.cons_append, wks, wks, wks_snoc (by simpa using hl), List.append_assoc]
mutual
/-- where a way that holds comes to -/
theorem wend_wk (t : List Nat) : ∀ (p : Pat) (w : Val) (a b : Nat), wend t p w a = some b → (wk p w a).1 = b
  | .sign z, w, a, b, h => by
    rw [wk]
    cases w with
    | int i =>
      simp only [wend] at h
      split at h
      · split at h
        · cases h; rfl
        · cases h
      · cases h
    | _ => simp [wend] at h
  | .row ps, w, a, b, h => by
    cases w with
    | tup ws =>
      simp only [wend] at h
      simp only [wk]
      split at h
      · rename_i hl
        exact wends_wks t ps ws a b hl.symm h
      · cases h
    | _ => simp [wend] at h
  | .any ps, w, a, b, h => by
    by_cases hw : ∃ k w', w = .tup [.int k, w']
    · obtain ⟨k, w', rfl⟩ := hw
      simp only [wend] at h
      simp only [wk]
      split at h
      · have hk2 : k.toNat < ps.length := by omega
        rw [wkn_at ps _ hk2]
        rw [wnth_at t ps _ hk2] at h
        exact wend_wkn t ps _ hk2 w' a b h
      · cases h
    · have e : wend t (.any ps) w a = none := by
        unfold wend
        split
        · rename_i k w' ; exact absurd ⟨k, w', rfl⟩ hw
        · rfl
      rw [e] at h
      cases h
  | .some lo hi p, w, a, b, h => by
    cases w with
    | tup ws =>
      simp only [wend] at h
      simp only [wk]
      split at h
      · rw [wrep_goes] at h
        exact wrep_wkr t p ws a b h
      · cases h
    | _ => simp [wend] at h
  | .mark nm p, w, a, b, h => by
    simp only [wend] at h
    simp only [wk]
    exact wend_wk t p w a b h
theorem wends_wks (t : List Nat) : ∀ (ps : List Pat) (ws : List Val) (a b : Nat), ps.length = ws.length → wends t ps ws a = some b → (wks ps ws a).1 = b
  | [], ws, a, b, _, h => by rw [wends] at h; cases h; rw [wks]
  | p :: ps, ws, a, b, hl, h => by
    cases ws with
    | nil => simp [wends] at h
    | cons w ws =>
      simp only [wends] at h
      rw [wks]
      cases hq : wend t p w a with
      | none => rw [hq] at h; cases h
      | some c =>
        rw [hq] at h
        simp only
        rw [wend_wk t p w a c hq]
        exact wends_wks t ps ws c b (by simpa using hl) h
theorem wend_wkn (t : List Nat) : ∀ (ps : List Pat) (k : Nat) (h : k < ps.length) (w : Val) (a b : Nat), wend t ps[k] w a = some b → (wk ps[k] w a).1 = b
  | p :: ps, 0, _, w, a, b, h => wend_wk t p w a b h
  | p :: ps, k + 1, hk, w, a, b, h => wend_wkn t ps k (by simpa using hk) w a b h
theorem wrep_wkr (t : List Nat) (p : Pat) : ∀ (ws : List Val) (a b : Nat), goes (List.replicate ws.length (wend t p)) ws a = some b → (wkr (wk p) ws a).1 = b
  | [], a, b, h => by cases h; rw [wkr]
  | w :: ws, a, b, h => by
    rw [List.length_cons, List.replicate_succ, goes] at h
    rw [wkr]
    cases hq : wend t p w a with
    | none => rw [hq] at h; cases h
    | some c =>
      rw [hq] at h
      simp only
      rw [wend_wk t p w a c hq]
      exact wrep_wkr t p ws c b h
end
end Mx

set_option linter.all false
set_option maxRecDepth 100000
set_option maxHeartbeats 4000000
namespace Mx
open L2 PySem
mutual
/-- how often at most a way marks the name z -/
def mx (z : List Nat) : Pat → Nat
  | .sign _ => 0
  | .row ps => mxs z ps
  | .any ps => mxm z ps
  | .some _ hi p => (if hi = true then 1 else 1000) * mx z p
  | .mark nm p => mx z p + (if nm = z then 1 else 0)
def mxs (z : List Nat) : List Pat → Nat
  | [] => 0
  | p :: ps => mx z p + mxs z ps
def mxm (z : List Nat) : List Pat → Nat
  | [] => 0
  | p :: ps => max (mx z p) (mxm z ps)
end
theorem mxs_app {z : List Nat} : ∀ {ps qs : List Pat}, mxs z (ps ++ qs) = mxs z ps + mxs z qs
  | [], qs => by rw [List.nil_append, mxs]; omega
  | p :: ps, qs => by rw [List.cons_append, mxs, mxs_app, mxs]; omega
theorem mxm_app {z : List Nat} : ∀ {ps qs : List Pat}, mxm z (ps ++ qs) = max (mxm z ps) (mxm z qs)
  | [], qs => by rw [List.nil_append, mxm]; omega
  | p :: ps, qs => by rw [List.cons_append, mxm, mxm_app, mxm]; omega
theorem mxm_mem {z : List Nat} : ∀ {ps : List Pat} {k : Nat} (h : k < ps.length), mx z ps[k] ≤ mxm z ps
  | p :: ps, 0, _ => by rw [mxm]; exact Nat.le_max_left _ _
  | p :: ps, k + 1, h => by rw [mxm]; have := mxm_mem (z := z) (ps := ps) (k := k) (by simpa using h); exact Nat.le_trans this (Nat.le_max_right _ _)
/-- no marks -/
def NoM (p : Pat) : Prop := ∀ z, mx z p = 0
def nmC (l : List Pc) (z : List Nat) : Nat := (l.map (·.1)).count z
theorem nmC_app (l k : List Pc) (z : List Nat) : nmC (l ++ k) z = nmC l z + nmC k z := by unfold nmC; rw [List.map_append, List.count_append]
theorem nmC_nil (z : List Nat) : nmC [] z = 0 := rfl
mutual
theorem cnt_wk (t z : List Nat) : ∀ (p : Pat) (w : Val) (a b : Nat), wend t p w a = some b → vok 0 w = true → nmC (wk p w a).2 z ≤ mx z p
  | .sign x, w, a, b, h, hv => by rw [wk]; exact Nat.zero_le _
  | .row ps, w, a, b, h, hv => by
    cases w with
    | tup ws =>
      simp only [wend] at h
      simp only [wk, mx]
      rw [vok, Bool.and_eq_true] at hv
      split at h
      · rename_i hl
        exact cnt_wks t z ps ws a b hl.symm h hv.2
      · cases h
    | _ => simp [wend] at h
  | .any ps, w, a, b, h, hv => by
    by_cases hw : ∃ k w', w = .tup [.int k, w']
    · obtain ⟨k, w', rfl⟩ := hw
      simp only [wend] at h
      simp only [wk, mx]
      rw [vok, Bool.and_eq_true, voks, voks, voks, Bool.and_eq_true, Bool.and_eq_true] at hv
      split at h
      · have hk2 : k.toNat < ps.length := by omega
        rw [wkn_at ps _ hk2]
        rw [wnth_at t ps _ hk2] at h
        exact Nat.le_trans (cnt_wkn t z ps _ hk2 w' a b h hv.2.2.1) (mxm_mem hk2)
      · cases h
    · have e : wend t (.any ps) w a = none := by
        unfold wend
        split
        · rename_i k w' ; exact absurd ⟨k, w', rfl⟩ hw
        · rfl
      rw [e] at h
      cases h
  | .some lo hi p, w, a, b, h, hv => by
    cases w with
    | tup ws =>
      simp only [wend] at h
      simp only [wk, mx]
      rw [vok, Bool.and_eq_true, decide_eq_true_eq] at hv
      split at h
      · rename_i hl
        rw [wrep_goes] at h
        have := cnt_wkr t z p ws a b h hv.2
        cases hi with
        | true =>
          have h1 := hl.2 rfl
          have : ws.length * mx z p ≤ 1 * mx z p := Nat.mul_le_mul_right _ h1
          simp only [if_true]
          omega
        | false =>
          have : ws.length * mx z p ≤ 1000 * mx z p := Nat.mul_le_mul_right _ hv.1
          simp only [Bool.false_eq_true, if_false]
          omega
      · cases h
    | _ => simp [wend] at h
  | .mark nm p, w, a, b, h, hv => by
    simp only [wend] at h
    simp only [wk, mx]
    have := cnt_wk t z p w a b h hv
    rw [nmC_app]
    have e : nmC [(nm, a, (wk p w a).1)] z = if nm = z then 1 else 0 := by
      unfold nmC
      rw [List.map_cons, List.map_nil, List.count_cons, List.count_nil, Nat.zero_add]
      by_cases hz : nm = z
      · rw [if_pos hz, if_pos (by simpa using hz)]
      · rw [if_neg hz, if_neg (by simpa using hz)]
    omega
theorem cnt_wks (t z : List Nat) : ∀ (ps : List Pat) (ws : List Val) (a b : Nat), ps.length = ws.length → wends t ps ws a = some b → voks 0 ws = true → nmC (wks ps ws a).2 z ≤ mxs z ps
  | [], ws, a, b, _, h, _ => by rw [wks]; exact Nat.zero_le _
  | p :: ps, ws, a, b, hl, h, hv => by
    cases ws with
    | nil => simp [wends] at h
    | cons w ws =>
      simp only [wends] at h
      rw [wks, mxs, nmC_app]
      rw [voks, Bool.and_eq_true] at hv
      cases hq : wend t p w a with
      | none => rw [hq] at h; cases h
      | some c =>
        rw [hq] at h
        have h1 := cnt_wk t z p w a c hq hv.1
        have h2 := wend_wk t p w a c hq
        rw [h2]
        have h3 := cnt_wks t z ps ws c b (by simpa using hl) h hv.2
        omega
theorem cnt_wkn (t z : List Nat) : ∀ (ps : List Pat) (k : Nat) (h : k < ps.length) (w : Val) (a b : Nat), wend t ps[k] w a = some b → vok 0 w = true → nmC (wk ps[k] w a).2 z ≤ mx z ps[k]
  | p :: ps, 0, _, w, a, b, h, hv => cnt_wk t z p w a b h hv
  | p :: ps, k + 1, hk, w, a, b, h, hv => cnt_wkn t z ps k (by simpa using hk) w a b h hv
theorem cnt_wkr (t z : List Nat) (p : Pat) : ∀ (ws : List Val) (a b : Nat), goes (List.replicate ws.length (wend t p)) ws a = some b → voks 0 ws = true → nmC (wkr (wk p) ws a).2 z ≤ ws.length * mx z p
  | [], a, b, h, _ => by rw [wkr]; exact Nat.zero_le _
  | w :: ws, a, b, h, hv => by
    rw [List.length_cons, List.replicate_succ, goes] at h
    rw [wkr, nmC_app, List.length_cons, Nat.succ_mul]
    rw [voks, Bool.and_eq_true] at hv
    cases hq : wend t p w a with
    | none => rw [hq] at h; cases h
    | some c =>
      rw [hq] at h
      have h1 := cnt_wk t z p w a c hq hv.1
      have h2 := wend_wk t p w a c hq
      rw [h2]
      have h3 := cnt_wkr t z p ws c b h hv.2
      omega
end
/-! ### the pieces are of the pattern's marks -/
mutual
theorem wk_names : ∀ (p : Pat) (w : Val) (a : Nat) (c : Pc), c ∈ (wk p w a).2 → c.1 ∈ mkP p
  | .sign _, w, a, c, h => by rw [wk] at h; cases h
  | .row ps, w, a, c, h => by
    cases w with
    | tup ws => simp only [wk] at h; exact wks_names ps ws a c h
    | _ => simp [wk] at h
  | .any ps, w, a, c, h => by
    by_cases hw : ∃ k w', w = .tup [.int k, w']
    · obtain ⟨k, w', rfl⟩ := hw
      simp only [wk] at h
      exact wkn_names ps _ w' a c h
    · have e : wk (.any ps) w a = (a, []) := by
        unfold wk
        split
        · rename_i k w' ; exact absurd ⟨k, w', rfl⟩ hw
        · rfl
      rw [e] at h
      cases h
  | .some lo hi p, w, a, c, h => by
    cases w with
    | tup ws => simp only [wk] at h; exact wkr_names p ws a c h
    | _ => simp [wk] at h
  | .mark nm p, w, a, c, h => by
    simp only [wk] at h
    rw [mkP]
    rcases List.mem_append.mp h with h | h
    · exact List.mem_append_left _ (wk_names p w a c h)
    · rw [List.mem_singleton.mp h]; exact List.mem_append_right _ (List.mem_singleton.mpr rfl)
theorem wks_names : ∀ (ps : List Pat) (ws : List Val) (a : Nat) (c : Pc), c ∈ (wks ps ws a).2 → c.1 ∈ mkPs ps
  | [], ws, a, c, h => by rw [wks] at h; cases h
  | p :: ps, ws, a, c, h => by
    cases ws with
    | nil => simp [wks] at h
    | cons w ws =>
      rw [wks] at h
      rw [mkPs]
      rcases List.mem_append.mp h with h | h
      · exact List.mem_append_left _ (wk_names p w a c h)
      · exact List.mem_append_right _ (wks_names ps ws _ c h)
theorem wkn_names : ∀ (ps : List Pat) (k : Nat) (w : Val) (a : Nat) (c : Pc), c ∈ (wkn ps k w a).2 → c.1 ∈ mkPs ps
  | [], k, w, a, c, h => by rw [wkn] at h; cases h
  | p :: ps, 0, w, a, c, h => by
    rw [wkn] at h
    rw [mkPs]
    exact List.mem_append_left _ (wk_names p w a c h)
  | p :: ps, k + 1, w, a, c, h => by
    rw [wkn] at h
    rw [mkPs]
    exact List.mem_append_right _ (wkn_names ps k w a c h)
theorem wkr_names (p : Pat) : ∀ (ws : List Val) (a : Nat) (c : Pc), c ∈ (wkr (wk p) ws a).2 → c.1 ∈ mkP p
  | [], a, c, h => by rw [wkr] at h; cases h
  | w :: ws, a, c, h => by
    rw [wkr] at h
    rcases List.mem_append.mp h with h | h
    · exact wk_names p w a c h
    · exact wkr_names p ws _ c h
end
end Mx

set_option linter.all false
set_option maxRecDepth 100000
set_option maxHeartbeats 4000000
namespace Mx
open L2 PySem
/-! ### dicts, plainly -/
theorem getD_any (k : Key) : ∀ kvs : List (Key × Val), (kvs.any fun p => decide (p.1 = k)) = (getD kvs k).isSome
  | [] => rfl
  | p :: r => by
    unfold getD
    rw [List.any_cons, List.find?_cons]
    by_cases h : p.1 = k
    · simp [h]
    · simp only [h, decide_false, Bool.false_or]
      exact getD_any k r
theorem getD_pos {p : Key × Val} {r : List (Key × Val)} {k : Key} (e : p.1 = k) : getD (p :: r) k = some p.2 := by simp [getD, List.find?_cons, e]
theorem getD_neg {p : Key × Val} {r : List (Key × Val)} {k : Key} (e : ¬ p.1 = k) : getD (p :: r) k = getD r k := by simp [getD, List.find?_cons, e]
theorem getD_map (k j : Key) (y : Val) : ∀ kvs : List (Key × Val), getD (kvs.map fun kv => if kv.1 = k then (kv.1, y) else kv) j = (getD kvs j).map fun x => if j = k then y else x
  | [] => rfl
  | p :: r => by
    rw [List.map_cons]
    have ih := getD_map k j y r
    by_cases h : p.1 = k
    · rw [if_pos h]
      by_cases e : p.1 = j
      · rw [getD_pos (p := (p.1, y)) e, getD_pos e, Option.map_some, if_pos (e.symm.trans h)]
      · rw [getD_neg (p := (p.1, y)) e, getD_neg e, ih]
    · rw [if_neg h]
      by_cases e : p.1 = j
      · rw [getD_pos (p := p) e, getD_pos e, Option.map_some, if_neg (fun z => h (e.trans z))]
      · rw [getD_neg (p := p) e, getD_neg e, ih]
theorem getD_snoc (k j : Key) (y : Val) : ∀ kvs : List (Key × Val), getD kvs k = none → getD (kvs ++ [(k, y)]) j = if j = k then some y else getD kvs j
  | [], _ => by
    rw [List.nil_append]
    by_cases e : k = j
    · rw [if_pos e.symm]; exact getD_pos (p := (k, y)) e
    · rw [if_neg (fun z => e z.symm)]; exact getD_neg (p := (k, y)) e
  | p :: r, hn => by
    have hk : ¬ p.1 = k := fun z => by rw [getD_pos z] at hn; cases hn
    rw [getD_neg hk] at hn
    have ih := getD_snoc k j y r hn
    rw [List.cons_append]
    by_cases e : p.1 = j
    · rw [getD_pos e, getD_pos e, if_neg (fun z => hk (e.trans z))]
    · rw [getD_neg e, getD_neg e, ih]
theorem getD_put (kvs : List (Key × Val)) (k j : Key) (y : Val) : getD (putD kvs k y) j = if j = k then some y else getD kvs j := by
  unfold putD
  by_cases a : (kvs.any fun kv => decide (kv.1 = k)) = true
  · rw [if_pos a, getD_map]
    rw [getD_any] at a
    by_cases e : j = k
    · obtain ⟨x, hx⟩ := Option.isSome_iff_exists.mp a
      rw [if_pos e, e, hx, Option.map_some, if_pos rfl]
    · rw [if_neg e]
      cases getD kvs j with
      | none => rfl
      | some x => rw [Option.map_some, if_neg e]
  · rw [if_neg a]
    refine getD_snoc k j y kvs ?_
    rw [getD_any] at a
    cases q : getD kvs k with
    | none => rfl
    | some x => rw [q] at a; exact (a rfl).elim
/-- the place of a piece -/
def cutV (c : Pc) : Val := .tup [.int (c.2.1 : Nat), .int (c.2.2 : Nat)]
/-- the dict of pieces by their names -/
def dks (l : List Pc) : List (Key × Val) := l.foldl (fun kvs c => putD kvs (sK c.1) (cutV c)) []
theorem dks_snoc (l : List Pc) (c : Pc) : dks (l ++ [c]) = putD (dks l) (sK c.1) (cutV c) := by unfold dks; rw [List.foldl_append]; rfl
theorem foldl_len : ∀ (l : List Pc) (kvs : List (Key × Val)), (l.foldl (fun kvs c => putD kvs (sK c.1) (cutV c)) kvs).length ≤ kvs.length + l.length
  | [], kvs => Nat.le_refl _
  | c :: l, kvs => by
    have h1 := foldl_len l (putD kvs (sK c.1) (cutV c))
    have h2 := putD_len kvs (sK c.1) (cutV c)
    rw [List.foldl_cons, List.length_cons]
    omega
theorem dks_len (l : List Pc) : (dks l).length ≤ l.length := by have := foldl_len l []; unfold dks; simpa using this
/-- the first piece of the name -/
def dueV (l : List Pc) (z : List Nat) : Val := match l.filter fun c => decide (c.1 = z) with
  | [] => .non
  | c :: _ => cutV c
theorem nmC_filter (l : List Pc) (z : List Nat) : (l.filter fun c => decide (c.1 = z)).length = nmC l z := by
  unfold nmC
  induction l with
  | nil => rfl
  | cons c l ih =>
    rw [List.filter_cons, List.map_cons, List.count_cons]
    by_cases h : c.1 = z
    · rw [if_pos (by simpa using h), if_pos (by simpa using h), List.length_cons, ih]
    · rw [if_neg (by simpa using h), if_neg (by simpa using h), ih]; rfl
theorem dks_get (z : List Nat) : ∀ (l : List Pc) (kvs : List (Key × Val)), getD (l.foldl (fun kvs c => putD kvs (sK c.1) (cutV c)) kvs) (sK z) = match (l.filter fun c => decide (c.1 = z)).getLast? with
    | some c => some (cutV c)
    | none => getD kvs (sK z)
  | [], kvs => rfl
  | c :: l, kvs => by
    rw [List.foldl_cons, dks_get z l, List.filter_cons]
    by_cases h : c.1 = z
    · rw [if_pos (by simpa using h), getD_put, if_pos (by rw [h])]
      cases hl : l.filter fun c => decide (c.1 = z) with
      | nil => rfl
      | cons e r =>
        rw [List.getLast?_cons_cons]
        obtain ⟨y, hy⟩ : ∃ y, (e :: r).getLast? = some y := ⟨_, List.getLast?_eq_some_getLast (by simp)⟩
        rw [hy]
    · rw [if_neg (by simpa using h), getD_put, if_neg (fun e => h (sK_inj e).symm)]
theorem due_get {l : List Pc} {z : List Nat} (h : nmC l z ≤ 1) : (getD (dks l) (sK z)).getD .non = dueV l z := by
  unfold dks dueV
  rw [dks_get]
  have hl := nmC_filter l z
  cases hf : l.filter fun c => decide (c.1 = z) with
  | nil => rfl
  | cons c r =>
    rw [hf] at hl
    have : r = [] := List.length_eq_zero_iff.mp (by rw [List.length_cons] at hl; omega)
    subst this
    rfl
end Mx

set_option linter.all false
set_option maxRecDepth 100000
set_option maxHeartbeats 4000000
namespace Mx
open L2 PySem
/-! ### plain values are equal to themselves -/
mutual
theorem eqv_dv : ∀ v, pureV v = true → PyData.eqv (dv v) (dv v) = true
  | .non, _ => by simp [dv, PyData.eqv]
  | .bl b, _ => by simp [dv, PyData.eqv]
  | .int i, _ => by simp [dv, PyData.eqv]
  | .str x, _ => by simp [dv, PyData.eqv]
  | .tup xs, h => by
    rw [dv, PyData.eqv]
    exact eqv_dvs xs h
  | .kl xs, h => by
    rw [dv, PyData.eqv]
    exact eqv_dvs xs h
  | .loc _, h => by cases h
  | .ext _, h => by cases h
theorem eqv_dvs : ∀ xs, pureVs xs = true → PyData.eqvAll (dvs xs) (dvs xs) = true
  | [], _ => by simp [dvs, PyData.eqvAll]
  | x :: xs, h => by
    rw [pureVs, Bool.and_eq_true] at h
    rw [dvs, PyData.eqvAll, eqv_dv x h.1, eqv_dvs xs h.2]
    rfl
end
mutual
/-- how deep a value is -/
def dpV : Val → Nat
  | .tup xs => dpVs xs + 1
  | .kl xs => dpVs xs + 1
  | _ => 0
def dpVs : List Val → Nat
  | [] => 0
  | x :: xs => max (dpV x) (dpVs xs)
end
theorem dpVs_le {n : Nat} : ∀ {xs : List Val}, (∀ x ∈ xs, dpV x ≤ n) → dpVs xs ≤ n
  | [], _ => Nat.zero_le _
  | x :: xs, h => by
    rw [dpVs]
    have := h x List.mem_cons_self
    have := dpVs_le fun y hy => h y (List.mem_cons_of_mem _ hy)
    omega
mutual
theorem dp_dv : ∀ v, (dv v).depth ≤ dpV v + 1
  | .non => by simp [dv, PyData.depth]
  | .bl b => by simp [dv, PyData.depth]
  | .int i => by simp [dv, PyData.depth]
  | .str x => by simp [dv, PyData.depth]
  | .tup xs => by rw [dv, PyData.depth, dpV]; have := dp_dvs xs; omega
  | .kl xs => by rw [dv, PyData.depth, dpV]; have := dp_dvs xs; omega
  | .loc _ => by simp [dv, PyData.depth]
  | .ext _ => by simp [dv, PyData.depth]
theorem dp_dvs : ∀ xs, PyData.depthAll (dvs xs) ≤ dpVs xs + 1
  | [] => by simp [dvs, PyData.depthAll]
  | x :: xs => by rw [dvs, PyData.depthAll, dpVs]; have := dp_dv x; have := dp_dvs xs; omega
end
theorem ne_self {v : Val} (h : pureV v = true) : PyData.eqv (dv v) (dv v) = true := eqv_dv v h
theorem dep_dv {v : Val} {d : PyData} (h : dpV v ≤ 60) : (min (dv v).depth d.depth ≤ 64) = True := eq_true (by have := dp_dv v; omega)
theorem eqvL_self {xs : List Val} (h : pureVs xs = true) : PyData.eqv (.list (dvs xs)) (.list (dvs xs)) = true := by rw [PyData.eqv]; exact eqv_dvs xs h
theorem depL_dv {xs : List Val} {d : PyData} (h : dpVs xs ≤ 60) : (min (PyData.depth (.list (dvs xs))) d.depth ≤ 64) = True := eq_true (by rw [PyData.depth]; have := dp_dvs xs; omega)
end Mx

set_option linter.all false
set_option maxRecDepth 100000
set_option maxHeartbeats 4000000
namespace Mx
open L2 PySem
/-! ### idle patterns; how often a way can mark a name, up to two -/
mutual
def idl : Pat → Bool
  | .sign _ => false
  | .row ps => idls ps
  | .any ps => idls ps
  | .some _ hi p => (!hi && bP p) || idl p
  | .mark _ p => idl p
def idls : List Pat → Bool
  | [] => false
  | p :: ps => idl p || idls ps
end
theorem idls_any : ∀ ps, idls ps = ps.any idl
  | [] => rfl
  | p :: ps => by rw [idls, idls_any ps, List.any_cons]
theorem idl_prts (p : Pat) : idl p = ((match p with | .some _ hi q => !hi && bP q | _ => false) || (prts p).any idl) := by
  cases p <;> simp [idl, prts, idls_any]
mutual
def mo (z : List Nat) : Pat → Nat
  | .sign _ => 0
  | .row ps => min 2 (mos z ps)
  | .any ps => mom z ps
  | .some _ hi p => min 2 (mo z p * (if hi = true then 1 else 2))
  | .mark nm p => min 2 (mo z p + (if nm = z then 1 else 0))
def mos (z : List Nat) : List Pat → Nat
  | [] => 0
  | p :: ps => mo z p + mos z ps
def mom (z : List Nat) : List Pat → Nat
  | [] => 0
  | p :: ps => max (mo z p) (mom z ps)
end
mutual
theorem mo_le (z : List Nat) : ∀ p, mo z p ≤ 2
  | .sign _ => by rw [mo]; omega
  | .row ps => by rw [mo]; omega
  | .any ps => by rw [mo]; exact mom_le z ps
  | .some _ hi p => by rw [mo]; omega
  | .mark nm p => by rw [mo]; omega
theorem mom_le (z : List Nat) : ∀ ps, mom z ps ≤ 2
  | [] => by rw [mom]; omega
  | p :: ps => by rw [mom]; have := mo_le z p; have := mom_le z ps; omega
end
theorem mos_le (z : List Nat) : ∀ ps : List Pat, mos z ps ≤ 2 * ps.length
  | [] => by rw [mos]; omega
  | p :: ps => by rw [mos, List.length_cons]; have := mo_le z p; have := mos_le z ps; omega
mutual
theorem mo_mx (z : List Nat) : ∀ p, mo z p ≤ mx z p
  | .sign _ => by rw [mo]; omega
  | .row ps => by rw [mo, mx]; have := mos_mx z ps; omega
  | .any ps => by rw [mo, mx]; exact mom_mx z ps
  | .some _ hi p => by
    rw [mo, mx]
    have := mo_mx z p
    cases hi
    · rw [if_neg (by decide), if_neg (by decide)]; omega
    · rw [if_pos rfl, if_pos rfl]; omega
  | .mark nm p => by rw [mo, mx]; have := mo_mx z p; omega
theorem mos_mx (z : List Nat) : ∀ ps, mos z ps ≤ mxs z ps
  | [] => by rw [mos]; omega
  | p :: ps => by rw [mos, mxs]; have := mo_mx z p; have := mos_mx z ps; omega
theorem mom_mx (z : List Nat) : ∀ ps, mom z ps ≤ mxm z ps
  | [] => by rw [mom]; omega
  | p :: ps => by rw [mom, mxm]; have := mo_mx z p; have := mom_mx z ps; omega
end
theorem maxI_mom (z : List Nat) : ∀ (ps : List Pat) (x : Nat), maxI (x : Int) (ps.map fun q => ((mo z q : Nat) : Int)) = ((max x (mom z ps) : Nat) : Int)
  | [], x => by rw [mom]; show (x : Int) = _; rw [Nat.max_zero]
  | p :: ps, x => by
    have h : maxI (x : Int) ((p :: ps).map fun q => ((mo z q : Nat) : Int)) = maxI (if (x : Int) < (mo z p : Nat) then ((mo z p : Nat) : Int) else (x : Int)) (ps.map fun q => ((mo z q : Nat) : Int)) := rfl
    have e : (if (x : Int) < (mo z p : Nat) then ((mo z p : Nat) : Int) else (x : Int)) = ((max x (mo z p) : Nat) : Int) := by split <;> omega
    rw [h, e, maxI_mom z ps, mom]
    congr 1
    omega
theorem sum_mos (z : List Nat) : ∀ ps : List Pat, (ps.map fun q => ((mo z q : Nat) : Int)).sum = ((mos z ps : Nat) : Int)
  | [] => rfl
  | p :: ps => by rw [List.map_cons, List.sum_cons, sum_mos z ps, mos]; omega
theorem asInts_mo (z : List Nat) : ∀ ps : List Pat, asInts (ps.map fun q => Val.int (mo z q : Nat)) = some (ps.map fun q => ((mo z q : Nat) : Int))
  | [] => rfl
  | p :: ps => by rw [List.map_cons, asInts, asInts_mo z ps]; rfl
theorem lSum_mo (z : List Nat) (ps : List Pat) (S : Sto) : lSum (ps.map fun q => Val.int (mo z q : Nat)) S = .ok (.int (mos z ps : Nat)) S := by
  unfold lSum; rw [asInts_mo]; simp only [sum_mos]
theorem lMax_mo (z : List Nat) (ps : List Pat) (S : Sto) (h : 0 < ps.length) : lMax (ps.map fun q => Val.int (mo z q : Nat)) S = .ok (.int (mom z ps : Nat)) S := by
  unfold lMax
  rw [asInts_mo]
  cases ps with
  | nil => cases h
  | cons p ps =>
    simp only [List.map_cons, maxI_mom]
    rw [mom]
/-- where a name is not marked, none is counted -/
theorem mx_none {z : List Nat} : ∀ p, z ∉ mkP p → mx z p = 0 := by
  intro p
  refine (mx_none_go p)
where
  mx_none_go : ∀ p, z ∉ mkP p → mx z p = 0
  | .sign _, _ => by rw [mx]
  | .row ps, h => by rw [mx]; exact go2 ps h
  | .any ps, h => by rw [mx]; exact go3 ps h
  | .some _ hi p, h => by rw [mx, mx_none_go p h, Nat.mul_zero]
  | .mark nm p, h => by
    rw [mkP, List.mem_append, List.mem_singleton, not_or] at h
    rw [mx, mx_none_go p h.1, if_neg (Ne.symm h.2)]
  go2 : ∀ ps, z ∉ mkPs ps → mxs z ps = 0
  | [], _ => by rw [mxs]
  | p :: ps, h => by
    rw [mkPs, List.mem_append, not_or] at h
    rw [mxs, mx_none_go p h.1, go2 ps h.2]
  go3 : ∀ ps, z ∉ mkPs ps → mxm z ps = 0
  | [], _ => by rw [mxm]
  | p :: ps, h => by
    rw [mkPs, List.mem_append, not_or] at h
    rw [mxm, mx_none_go p h.1, go3 ps h.2]; rfl
end Mx

set_option linter.all false
set_option maxRecDepth 100000
set_option maxHeartbeats 4000000
namespace Mx
open L2 PySem
/-! ### the text of a way that marks a name so many times -/
mutual
def tl : Pat → Nat
  | .sign _ => 1
  | .row ps => tls ps
  | .any ps => tls ps
  | .some _ true p => tl p
  | .some _ false p => 2 * tl p
  | .mark _ p => tl p + 1
def tls : List Pat → Nat
  | [] => 0
  | p :: ps => tl p + tls ps
end
theorem tls_app : ∀ {ps qs : List Pat}, tls (ps ++ qs) = tls ps + tls qs
  | [], qs => by rw [List.nil_append, tls]; omega
  | p :: ps, qs => by rw [List.cons_append, tls, tls_app, tls]; omega
theorem tls_mem : ∀ {ps : List Pat} {p : Pat}, p ∈ ps → tl p ≤ tls ps
  | q :: ps, p, hm => by
    rw [tls]
    rcases List.mem_cons.mp hm with rfl | hm
    · omega
    · have := tls_mem hm; omega
/-- a way's text: it holds wherever it stands, and marks z so often -/
structure Tw (p : Pat) (z : List Nat) (times at0 : Nat) (t : List Nat) (w : Val) : Prop where
  len : t.length ≤ tl p
  ok : vok 0 w = true
  goes : ∀ pre post : List Nat, pre.length = at0 → wend (pre ++ t ++ post) p w at0 = some (at0 + t.length)
  many : times ≤ nmC (wk p w at0).2 z
  pcs : (wk p w at0).2.length ≤ tl p
structure Tws (ps : List Pat) (z : List Nat) (times at0 : Nat) (t : List Nat) (ws : List Val) : Prop where
  num : ws.length = ps.length
  len : t.length ≤ tls ps
  ok : voks 0 ws = true
  goes : ∀ pre post : List Nat, pre.length = at0 → wends (pre ++ t ++ post) ps ws at0 = some (at0 + t.length)
  many : times ≤ nmC (wks ps ws at0).2 z
  pcs : (wks ps ws at0).2.length ≤ tls ps
theorem Tws.nil {z : List Nat} {at0 : Nat} : Tws [] z 0 at0 [] [] := ⟨rfl, Nat.le_refl _, rfl, (fun pre post h => by rw [wends]; rfl), Nat.zero_le _, by rw [wks]; exact Nat.zero_le _⟩
theorem Tws.snoc {ps : List Pat} {z : List Nat} {c own at0 : Nat} {t t1 : List Nat} {ws : List Val} {p : Pat} {w : Val} (h : Tws ps z c at0 t ws) (h1 : Tw p z own (at0 + t.length) t1 w) : Tws (ps ++ [p]) z (c + own) at0 (t ++ t1) (ws ++ [w]) := by
  have hg : (wks ps ws at0).1 = at0 + t.length := wends_wks _ ps ws at0 _ h.num.symm (h.goes (List.replicate at0 0) [] List.length_replicate)
  refine ⟨by rw [List.length_append, List.length_append, h.num]; rfl, ?_, by rw [voks_app, h.ok, voks, h1.ok]; rfl, fun pre post hp => ?_, ?_, ?_⟩
  · rw [List.length_append, tls_app, tls, tls]
    have := h.len
    have := h1.len
    omega
  · have a1 := h.goes pre (t1 ++ post) hp
    have a2 := h1.goes (pre ++ t) post (by rw [List.length_append, hp])
    simp only [List.append_assoc] at a1 a2 ⊢
    rw [wends_snoc _ h.num.symm a1, a2, List.length_append, Nat.add_assoc]
  · rw [wks_snoc h.num.symm, nmC_app, hg]
    have := h.many
    have := h1.many
    omega
  · rw [wks_snoc h.num.symm, List.length_append, hg, tls_app, tls, tls]
    have := h.pcs
    have := h1.pcs
    omega
theorem Tw.row {ps : List Pat} {z : List Nat} {times at0 : Nat} {t : List Nat} {ws : List Val} (h : Tws ps z times at0 t ws) (hl : ps.length ≤ 1000) : Tw (.row ps) z times at0 t (.tup ws) := by
  refine ⟨by rw [tl]; exact h.len, by rw [vok, h.ok, decide_eq_true (by rw [h.num]; exact hl)]; rfl, fun pre post hp => ?_, ?_, ?_⟩
  · rw [wend, if_pos h.num]; exact h.goes pre post hp
  · rw [wk]; exact h.many
  · rw [wk, tl]; exact h.pcs
theorem Tw.sm {p : Pat} {z : List Nat} {times at0 lo r : Nat} {hi : Bool} {t : List Nat} {ws : List Val} (h : Tws (List.replicate r p) z times at0 t ws) (hr : r ≤ 1000) (h1 : lo ≤ r) (h2 : hi = true → r ≤ 1) (h3 : r ≤ 2) : Tw (.some lo hi p) z times at0 t (.tup ws) := by
  have hn := h.num
  rw [List.length_replicate] at hn
  have hrep : ∀ r, tls (List.replicate r p) = r * tl p := fun r => by
    induction r with
    | zero => simp [tls]
    | succ r ih => rw [List.replicate_succ, tls, ih, Nat.succ_mul]; omega
  have hl := h.len
  have hpc := h.pcs
  rw [hrep] at hl hpc
  have hup : r * tl p ≤ tl (.some lo hi p) := by
    cases hi with
    | true =>
      rw [tl]
      have : r * tl p ≤ 1 * tl p := Nat.mul_le_mul_right _ (h2 rfl)
      omega
    | false =>
      rw [tl]
      exact Nat.mul_le_mul_right _ h3
  refine ⟨Nat.le_trans hl hup, by rw [vok, h.ok, decide_eq_true (by omega)]; rfl, fun pre post hp => ?_, ?_, ?_⟩
  · rw [wend, if_pos ⟨by omega, fun h => by have := h2 h; omega⟩, wrep_wends, hn]
    exact h.goes pre post hp
  · simp only [wk]
    rw [wkr_wks, hn]
    exact h.many
  · simp only [wk]
    rw [wkr_wks, hn]
    exact Nat.le_trans hpc hup
theorem Tw.any {ps : List Pat} {z : List Nat} {times at0 k : Nat} {t : List Nat} {w : Val} (hk : k < ps.length) (h : Tw ps[k] z times at0 t w) : Tw (.any ps) z times at0 t (.tup [.int (k : Nat), w]) := by
  have e : ((k : Int)).toNat = k := by omega
  refine ⟨by rw [tl]; have := h.len; have := tls_mem (List.getElem_mem hk); omega, by rw [vok, voks, voks, voks, h.ok]; rfl, fun pre post hp => ?_, ?_, ?_⟩
  · rw [wend, if_pos ⟨by omega, by omega⟩, e, wnth_at _ ps k hk]
    exact h.goes pre post hp
  · simp only [wk]
    rw [e, wkn_at ps k hk]
    exact h.many
  · simp only [wk]
    rw [e, wkn_at ps k hk, tl]
    have := h.pcs
    have := tls_mem (List.getElem_mem hk)
    omega
theorem Tw.mark {p : Pat} {z nm : List Nat} {times times2 at0 : Nat} {t : List Nat} {w : Val} (h : Tw p z times at0 t w) (ht : times2 ≤ times + (if nm = z then 1 else 0)) : Tw (.mark nm p) z times2 at0 t w := by
  refine ⟨by rw [tl]; have := h.len; omega, h.ok, fun pre post hp => ?_, ?_, ?_⟩
  · rw [wend]; exact h.goes pre post hp
  · simp only [wk]
    rw [nmC_app]
    have e : nmC [(nm, at0, (wk p w at0).1)] z = if nm = z then 1 else 0 := by
      unfold nmC
      rw [List.map_cons, List.map_nil, List.count_cons, List.count_nil, Nat.zero_add]
      by_cases hz : nm = z
      · rw [if_pos hz, if_pos (by simpa using hz)]
      · rw [if_neg hz, if_neg (by simpa using hz)]
    rw [e]
    have := h.many
    omega
  · simp only [wk]
    rw [List.length_append, tl]
    have := h.pcs
    simp only [List.length_cons, List.length_nil]
    omega
theorem Tw.sign {x : List Nat} {z : List Nat} {at0 c : Nat} (h : c ∈ x) : Tw (.sign x) z 0 at0 [c] (.int (at0 : Nat)) := by
  refine ⟨by rw [tl]; exact Nat.le_refl _, rfl, fun pre post hp => ?_, Nat.zero_le _, by rw [wk]; exact Nat.zero_le _⟩
  have e : (pre ++ [c] ++ post)[at0]? = some c := by
    rw [List.append_assoc, ← hp, List.getElem?_append_right (Nat.le_refl _), Nat.sub_self]
    rfl
  simp only [wend, e]
  simp [h]
theorem enumV_zip : ∀ (ps : List Pat) (k : Nat), enumV k (encs ps) = (ps.zipIdx k).map fun c => .tup [.int (c.2 : Nat), enc c.1]
  | [], _ => rfl
  | p :: ps, k => by rw [encs, enumV, enumV_zip ps (k + 1), List.zipIdx_cons, List.map_cons]
theorem mom_at (z : List Nat) : ∀ ps : List Pat, 0 < ps.length → ∃ q ∈ ps, mo z q = mom z ps
  | [], h => by cases h
  | [p], _ => ⟨p, List.mem_singleton.mpr rfl, by rw [mom, mom, Nat.max_zero]⟩
  | p :: q :: ps, _ => by
    obtain ⟨r, h1, h2⟩ := mom_at z (q :: ps) (by simp)
    rw [mom]
    by_cases h : mom z (q :: ps) ≤ mo z p
    · exact ⟨p, List.mem_cons_self, by omega⟩
    · exact ⟨r, List.mem_cons_of_mem _ h1, by omega⟩
/-- the first part that can mark so often -/
theorem first_any {z : List Nat} {times : Nat} {ps : List Pat} (h0 : 0 < ps.length) (h : times ≤ mom z ps) : ∃ (k : Nat) (hk : k < ps.length) (r : List (Pat × Nat)), (ps.zipIdx 0).filter (fun c => decide (times ≤ mo z c.1)) = (ps[k], k) :: r ∧ times ≤ mo z ps[k] := by
  obtain ⟨q, h1, h2⟩ := mom_at z ps h0
  obtain ⟨i, hi, e⟩ := List.getElem_of_mem h1
  have hmem : (ps[i], i) ∈ (ps.zipIdx 0).filter (fun c => decide (times ≤ mo z c.1)) := by
    rw [List.mem_filter]
    refine ⟨?_, decide_eq_true (show times ≤ mo z ps[i] by rw [e]; omega)⟩
    rw [List.mem_zipIdx_iff_getElem?]
    exact List.getElem?_eq_getElem hi
  match hf : (ps.zipIdx 0).filter (fun c => decide (times ≤ mo z c.1)) with
  | [] => rw [hf] at hmem; cases hmem
  | (p, k) :: r =>
    have hk : (p, k) ∈ (ps.zipIdx 0).filter (fun c => decide (times ≤ mo z c.1)) := by rw [hf]; exact List.mem_cons_self
    rw [List.mem_filter, List.mem_zipIdx_iff_getElem?, decide_eq_true_eq] at hk
    obtain ⟨hk1, hk2⟩ := hk
    have hk1 : ps[k]? = some p := hk1
    obtain ⟨hkl, he⟩ := List.getElem?_eq_some_iff.mp hk1
    exact ⟨k, hkl, r, by rw [he, hf], by rw [he]; exact hk2⟩
end Mx

set_option linter.all false
set_option maxRecDepth 100000
set_option maxHeartbeats 4000000
namespace Mx
open L2 PySem
/-! ### is a name marked twice? -/
mutual
theorem mo_pos (z : List Nat) : ∀ p, (1 ≤ mo z p) ↔ z ∈ mkP p
  | .sign _ => by rw [mo, mkP]; simp
  | .row ps => by
    rw [mo, mkP]
    have := mos_pos z ps
    rw [← this]; omega
  | .any ps => by
    rw [mo, mkP]
    exact mom_pos z ps
  | .some _ hi p => by
    rw [mo, mkP]
    have := mo_pos z p
    rw [← this]
    cases hi
    · rw [if_neg (by decide)]; omega
    · rw [if_pos rfl]; omega
  | .mark nm p => by
    have := mo_pos z p
    rw [mo, mkP, List.mem_append, List.mem_singleton, ← this]
    by_cases h : nm = z
    · rw [if_pos h]
      exact ⟨fun _ => .inr h.symm, fun _ => by omega⟩
    · rw [if_neg h]
      exact ⟨fun g => .inl (by omega), fun g => g.elim (fun g => by omega) fun g => absurd g.symm h⟩
theorem mos_pos (z : List Nat) : ∀ ps, (1 ≤ mos z ps) ↔ z ∈ mkPs ps
  | [] => by rw [mos, mkPs]; simp
  | p :: ps => by
    have h1 := mo_pos z p
    have h2 := mos_pos z ps
    rw [mos, mkPs, List.mem_append, ← h1, ← h2]
    omega
theorem mom_pos (z : List Nat) : ∀ ps, (1 ≤ mom z ps) ↔ z ∈ mkPs ps
  | [] => by rw [mom, mkPs]; simp
  | p :: ps => by
    have h1 := mo_pos z p
    have h2 := mom_pos z ps
    rw [mom, mkPs, List.mem_append, ← h1, ← h2]
    omega
end
/-- two of these share a name -/
def shr : List (List (List Nat)) → Bool
  | [] => false
  | a :: r => r.any (fun b => b.any fun x => decide (x ∈ a)) || shr r
theorem shr_at {ls : List (List (List Nat))} : shr ls = true ↔ ∃ (j k : Nat) (hj : j < ls.length) (hk : k < ls.length), j < k ∧ ∃ x, x ∈ ls[k] ∧ x ∈ ls[j] := by
  induction ls with
  | nil => simp [shr]
  | cons a r ih =>
    rw [shr, Bool.or_eq_true, ih, List.any_eq_true]
    constructor
    · rintro (⟨b, hb, h⟩ | ⟨j, k, hj, hk, hl, x, h1, h2⟩)
      · obtain ⟨x, hx, h2⟩ := List.any_eq_true.mp h
        obtain ⟨i, hi, rfl⟩ := List.getElem_of_mem hb
        exact ⟨0, i + 1, by simp, by simpa using hi, by omega, x, by simpa using hx, by simpa using h2⟩
      · exact ⟨j + 1, k + 1, by simpa using hj, by simpa using hk, by omega, x, by simpa using h1, by simpa using h2⟩
    · rintro ⟨j, k, hj, hk, hl, x, h1, h2⟩
      obtain ⟨k', rfl⟩ : ∃ k', k = k' + 1 := ⟨k - 1, by omega⟩
      cases j with
      | zero =>
        left
        refine ⟨r[k']'(by simpa using hk), List.getElem_mem _, List.any_eq_true.mpr ⟨x, by simpa using h1, by simpa using h2⟩⟩
      | succ j =>
        right
        exact ⟨j, k', by simpa using hj, by simpa using hk, by omega, x, by simpa using h1, by simpa using h2⟩
mutual
def tw : Pat → Bool
  | .sign _ => false
  | .row ps => shr (ps.map mkP) || tws ps
  | .any ps => tws ps
  | .some _ hi p => (!hi && !(mkP p).isEmpty) || tw p
  | .mark nm p => decide (nm ∈ mkP p) || tw p
def tws : List Pat → Bool
  | [] => false
  | p :: ps => tw p || tws ps
end
theorem tws_any : ∀ ps, tws ps = ps.any tw
  | [] => rfl
  | p :: ps => by rw [tws, tws_any ps, List.any_cons]
theorem mos_two (z : List Nat) : ∀ ps : List Pat, 2 ≤ mos z ps ↔ (∃ p ∈ ps, mo z p = 2) ∨ ∃ (j k : Nat) (hj : j < ps.length) (hk : k < ps.length), j < k ∧ 1 ≤ mo z ps[j] ∧ 1 ≤ mo z ps[k]
  | [] => by simp [mos]
  | p :: ps => by
    have ih := mos_two z ps
    have h0 := mo_le z p
    rw [mos]
    constructor
    · intro h
      by_cases h2 : mo z p = 2
      · exact .inl ⟨p, List.mem_cons_self, h2⟩
      by_cases h3 : 2 ≤ mos z ps
      · rcases ih.mp h3 with ⟨q, hq, e⟩ | ⟨j, k, hj, hk, hl, a, b⟩
        · exact .inl ⟨q, List.mem_cons_of_mem _ hq, e⟩
        · exact .inr ⟨j + 1, k + 1, by simpa using hj, by simpa using hk, by omega, by simpa using a, by simpa using b⟩
      · have h4 : 1 ≤ mos z ps := by omega
        rw [mos_pos] at h4
        have : ∃ q ∈ ps, z ∈ mkP q := by
          clear ih h h3
          induction ps with
          | nil => simp [mkPs] at h4
          | cons q ps ih2 =>
            rw [mkPs, List.mem_append] at h4
            rcases h4 with h4 | h4
            · exact ⟨q, List.mem_cons_self, h4⟩
            · obtain ⟨r, hr, h5⟩ := ih2 h4
              exact ⟨r, List.mem_cons_of_mem _ hr, h5⟩
        obtain ⟨q, hq, hz⟩ := this
        obtain ⟨i, hi, rfl⟩ := List.getElem_of_mem hq
        exact .inr ⟨0, i + 1, by simp, by simpa using hi, by omega, by simp; omega, by simpa using (mo_pos z _).mpr hz⟩
    · rintro (⟨q, hq, e⟩ | ⟨j, k, hj, hk, hl, a, b⟩)
      · rcases List.mem_cons.mp hq with rfl | hq
        · omega
        · have := ih.mpr (.inl ⟨q, hq, e⟩); omega
      · obtain ⟨k', rfl⟩ : ∃ k', k = k' + 1 := ⟨k - 1, by omega⟩
        cases j with
        | zero =>
          have hk' : k' < ps.length := by simpa using hk
          have b' : 1 ≤ mo z ps[k'] := by simpa using b
          have a' : 1 ≤ mo z p := by simpa using a
          have hm : z ∈ mkPs ps := by
            have h1 := (mo_pos z _).mp b'
            have : ∀ (qs : List Pat) (i : Nat) (h : i < qs.length), z ∈ mkP qs[i] → z ∈ mkPs qs := fun qs => by
              induction qs with
              | nil => intro i h; simp at h
              | cons q qs ih3 =>
                intro i h hz
                rw [mkPs, List.mem_append]
                cases i with
                | zero => exact .inl (by simpa using hz)
                | succ i => exact .inr (ih3 i (by simpa using h) (by simpa using hz))
            exact this ps k' hk' h1
          have := (mos_pos z ps).mpr hm
          omega
        | succ j =>
          have := ih.mpr (.inr ⟨j, k', by simpa using hj, by simpa using hk, by omega, by simpa using a, by simpa using b⟩)
          omega
theorem mom_two (z : List Nat) : ∀ ps : List Pat, 2 ≤ mom z ps ↔ ∃ p ∈ ps, mo z p = 2
  | [] => by simp [mom]
  | p :: ps => by
    have ih := mom_two z ps
    have h0 := mo_le z p
    rw [mom]
    constructor
    · intro h
      by_cases h2 : mo z p = 2
      · exact ⟨p, List.mem_cons_self, h2⟩
      · obtain ⟨q, hq, e⟩ := ih.mp (by omega)
        exact ⟨q, List.mem_cons_of_mem _ hq, e⟩
    · rintro ⟨q, hq, e⟩
      rcases List.mem_cons.mp hq with rfl | hq
      · omega
      · have := ih.mpr ⟨q, hq, e⟩; omega
mutual
theorem tw_two : ∀ p, tw p = true ↔ ∃ z, mo z p = 2
  | .sign _ => by simp [tw, mo]
  | .row ps => by
    rw [tw, Bool.or_eq_true, tws_two ps, shr_at]
    constructor
    · rintro (⟨j, k, hj, hk, hl, x, h1, h2⟩ | ⟨z, p, hp, h⟩)
      · rw [List.length_map] at hj hk
        rw [List.getElem_map] at h1 h2
        refine ⟨x, ?_⟩
        have := (mos_two x ps).mpr (.inr ⟨j, k, hj, hk, hl, (mo_pos x _).mpr h2, (mo_pos x _).mpr h1⟩)
        rw [mo]; omega
      · refine ⟨z, ?_⟩
        have := (mos_two z ps).mpr (.inl ⟨p, hp, h⟩)
        rw [mo]; omega
    · rintro ⟨z, h⟩
      rw [mo] at h
      rcases (mos_two z ps).mp (by omega) with ⟨p, hp, e⟩ | ⟨j, k, hj, hk, hl, a, b⟩
      · exact .inr ⟨z, p, hp, e⟩
      · refine .inl ⟨j, k, by rw [List.length_map]; exact hj, by rw [List.length_map]; exact hk, hl, z, ?_, ?_⟩
        · rw [List.getElem_map]; exact (mo_pos z _).mp b
        · rw [List.getElem_map]; exact (mo_pos z _).mp a
  | .any ps => by
    rw [tw, tws_two ps]
    constructor
    · rintro ⟨z, p, hp, h⟩
      have := (mom_two z ps).mpr ⟨p, hp, h⟩
      have := mom_le z ps
      exact ⟨z, by rw [mo]; omega⟩
    · rintro ⟨z, h⟩
      rw [mo] at h
      obtain ⟨p, hp, e⟩ := (mom_two z ps).mp (by omega)
      exact ⟨z, p, hp, e⟩
  | .some _ hi p => by
    have ih := tw_two p
    rw [tw, Bool.or_eq_true, ih]
    cases hi with
    | true =>
      constructor
      · rintro (h | ⟨z, h⟩)
        · simp at h
        · exact ⟨z, by rw [mo, if_pos rfl]; omega⟩
      · rintro ⟨z, h⟩
        rw [mo, if_pos rfl] at h
        exact .inr ⟨z, by have := mo_le z p; omega⟩
    | false =>
      constructor
      · rintro (h | ⟨z, h⟩)
        · have h : (!(mkP p).isEmpty) = true := by simpa using h
          cases hm : mkP p with
          | nil => rw [hm] at h; simp at h
          | cons z r =>
            have : 1 ≤ mo z p := (mo_pos z p).mpr (by rw [hm]; exact List.mem_cons_self)
            exact ⟨z, by rw [mo, if_neg (by decide)]; omega⟩
        · exact ⟨z, by rw [mo, if_neg (by decide)]; omega⟩
      · rintro ⟨z, h⟩
        rw [mo, if_neg (by decide)] at h
        left
        have hz : z ∈ mkP p := (mo_pos z p).mp (by omega)
        cases hm : mkP p with
        | nil => rw [hm] at hz; cases hz
        | cons _ _ => rfl
  | .mark nm p => by
    have ih := tw_two p
    rw [tw, Bool.or_eq_true, ih, decide_eq_true_eq]
    constructor
    · rintro (h | ⟨z, h⟩)
      · have := (mo_pos nm p).mpr h
        exact ⟨nm, by rw [mo, if_pos rfl]; omega⟩
      · exact ⟨z, by rw [mo]; omega⟩
    · rintro ⟨z, h⟩
      rw [mo] at h
      have := mo_le z p
      by_cases h2 : mo z p = 2
      · exact .inr ⟨z, h2⟩
      · by_cases hz : nm = z
        · rw [if_pos hz] at h
          left
          rw [hz]
          exact (mo_pos z p).mp (by omega)
        · rw [if_neg hz] at h; omega
theorem tws_two : ∀ ps, tws ps = true ↔ ∃ z, ∃ p ∈ ps, mo z p = 2
  | [] => by simp [tws]
  | p :: ps => by
    have h1 := tw_two p
    have h2 := tws_two ps
    rw [tws, Bool.or_eq_true, h1, h2]
    constructor
    · rintro (⟨z, h⟩ | ⟨z, q, hq, h⟩)
      · exact ⟨z, p, List.mem_cons_self, h⟩
      · exact ⟨z, q, List.mem_cons_of_mem _ hq, h⟩
    · rintro ⟨z, q, hq, h⟩
      rcases List.mem_cons.mp hq with rfl | hq
      · exact .inl ⟨z, h⟩
      · exact .inr ⟨z, q, hq, h⟩
end
end Mx

set_option linter.all false
set_option maxRecDepth 100000
set_option maxHeartbeats 4000000
namespace Mx
open L2 PySem
/-! ### plans -/
inductive Pln where
  | pat (p : Pat) | join (a b : Pln) | eith (a b : Pln) | wout (a b : Pln) | only (ns : List (List Nat)) (a : Pln) | same (x y : List Nat) (a : Pln)
def encP : Pln → Val
  | .pat p => .tup [.str (cs "pattern"), enc p]
  | .join a b => .tup [.str (cs "join"), encP a, encP b]
  | .eith a b => .tup [.str (cs "either"), encP a, encP b]
  | .wout a b => .tup [.str (cs "without"), encP a, encP b]
  | .only ns a => .tup [.str (cs "only"), .tup (ns.map Val.str), encP a]
  | .same x y a => .tup [.str (cs "same"), .str x, .str y, encP a]
theorem encP_pat (p : Pat) : encP (.pat p) = .tup [.str (cs "pattern"), enc p] := rfl
theorem encP_join (a b : Pln) : encP (.join a b) = .tup [.str (cs "join"), encP a, encP b] := rfl
theorem encP_eith (a b : Pln) : encP (.eith a b) = .tup [.str (cs "either"), encP a, encP b] := rfl
theorem encP_wout (a b : Pln) : encP (.wout a b) = .tup [.str (cs "without"), encP a, encP b] := rfl
theorem encP_only (ns : List (List Nat)) (a : Pln) : encP (.only ns a) = .tup [.str (cs "only"), .tup (ns.map Val.str), encP a] := rfl
theorem encP_same (x y : List Nat) (a : Pln) : encP (.same x y a) = .tup [.str (cs "same"), .str x, .str y, encP a] := rfl
theorem np_pattern_join : decide (cs "pattern" = cs "join") = false := by decide +kernel
theorem np_pattern_either : decide (cs "pattern" = cs "either") = false := by decide +kernel
theorem np_pattern_without : decide (cs "pattern" = cs "without") = false := by decide +kernel
theorem np_pattern_only : decide (cs "pattern" = cs "only") = false := by decide +kernel
theorem np_pattern_same : decide (cs "pattern" = cs "same") = false := by decide +kernel
theorem np_join_pattern : decide (cs "join" = cs "pattern") = false := by decide +kernel
theorem np_join_either : decide (cs "join" = cs "either") = false := by decide +kernel
theorem np_join_without : decide (cs "join" = cs "without") = false := by decide +kernel
theorem np_join_only : decide (cs "join" = cs "only") = false := by decide +kernel
theorem np_join_same : decide (cs "join" = cs "same") = false := by decide +kernel
theorem np_either_pattern : decide (cs "either" = cs "pattern") = false := by decide +kernel
theorem np_either_join : decide (cs "either" = cs "join") = false := by decide +kernel
theorem np_either_without : decide (cs "either" = cs "without") = false := by decide +kernel
theorem np_either_only : decide (cs "either" = cs "only") = false := by decide +kernel
theorem np_either_same : decide (cs "either" = cs "same") = false := by decide +kernel
theorem np_without_pattern : decide (cs "without" = cs "pattern") = false := by decide +kernel
theorem np_without_join : decide (cs "without" = cs "join") = false := by decide +kernel
theorem np_without_either : decide (cs "without" = cs "either") = false := by decide +kernel
theorem np_without_only : decide (cs "without" = cs "only") = false := by decide +kernel
theorem np_without_same : decide (cs "without" = cs "same") = false := by decide +kernel
theorem np_only_pattern : decide (cs "only" = cs "pattern") = false := by decide +kernel
theorem np_only_join : decide (cs "only" = cs "join") = false := by decide +kernel
theorem np_only_either : decide (cs "only" = cs "either") = false := by decide +kernel
theorem np_only_without : decide (cs "only" = cs "without") = false := by decide +kernel
theorem np_only_same : decide (cs "only" = cs "same") = false := by decide +kernel
theorem np_same_pattern : decide (cs "same" = cs "pattern") = false := by decide +kernel
theorem np_same_join : decide (cs "same" = cs "join") = false := by decide +kernel
theorem np_same_either : decide (cs "same" = cs "either") = false := by decide +kernel
theorem np_same_without : decide (cs "same" = cs "without") = false := by decide +kernel
theorem np_same_only : decide (cs "same" = cs "only") = false := by decide +kernel
def inr : Pln → List Pln
  | .pat _ => []
  | .join a b => [a, b]
  | .eith a b => [a, b]
  | .wout a b => [a, b]
  | .only _ a => [a]
  | .same _ _ a => [a]
def dpP : Pln → Nat
  | .pat _ => 1
  | .join a b => max (dpP a) (dpP b) + 1
  | .eith a b => max (dpP a) (dpP b) + 1
  | .wout a b => max (dpP a) (dpP b) + 1
  | .only _ a => dpP a + 1
  | .same _ _ a => dpP a + 1
theorem dpP_pos (a : Pln) : 1 ≤ dpP a := by cases a <;> simp [dpP]
/-- texts, rising, each once -/
def srtN (zs : List (List Nat)) : List (List Nat) := (srt zs).map fun v => match v with
  | .str x => x
  | _ => []
theorem unS_map : ∀ ys : List (List Nat), ((ys.map Val.str).map fun v => match v with
  | .str x => x
  | _ => []) = ys
  | [] => rfl
  | y :: ys => by rw [List.map_cons, List.map_cons, unS_map ys]
theorem srtN_str (zs : List (List Nat)) : srt zs = (srtN zs).map Val.str := by
  obtain ⟨ys, e, _⟩ := srt_str zs
  unfold srtN
  rw [e, unS_map]
theorem srtN_mem (zs : List (List Nat)) (y : List Nat) : y ∈ srtN zs ↔ y ∈ zs := by
  obtain ⟨ys, e, h⟩ := srt_str zs
  unfold srtN
  rw [e, unS_map]
  exact h y
theorem srtN_len (zs : List (List Nat)) : (srtN zs).length ≤ zs.length := by
  unfold srtN; rw [List.length_map]; exact srt_len zs
theorem srtN_same {zs ys : List (List Nat)} (h : ∀ z, z ∈ zs ↔ z ∈ ys) : srtN zs = srtN ys := by unfold srtN; rw [srt_same h]
/-- the names of a plan -/
def nin : Pln → List (List Nat)
  | .pat p => srtN (mkP p)
  | .join a b => srtN (nin a ++ nin b)
  | .eith a b => srtN (nin a ++ nin b)
  | .wout a _ => nin a
  | .only ns _ => ns
  | .same _ _ a => nin a
/-- how many names there may be -/
def nb : Pln → Nat
  | .pat p => sz p
  | .join a b => nb a + nb b
  | .eith a b => nb a + nb b
  | .wout a b => nb a + nb b
  | .only ns a => ns.length + nb a
  | .same _ _ a => nb a
theorem nin_len : ∀ a, (nin a).length ≤ nb a
  | .pat p => by rw [nin, nb]; exact Nat.le_trans (srtN_len _) (mkP_len p)
  | .join a b => by rw [nin, nb]; have := srtN_len (nin a ++ nin b); rw [List.length_append] at this; have := nin_len a; have := nin_len b; omega
  | .eith a b => by rw [nin, nb]; have := srtN_len (nin a ++ nin b); rw [List.length_append] at this; have := nin_len a; have := nin_len b; omega
  | .wout a b => by rw [nin, nb]; have := nin_len a; omega
  | .only ns a => by rw [nin, nb]; omega
  | .same _ _ a => by rw [nin, nb]; exact nin_len a
/-- a pattern within bounds -/
structure Wf (p : Pat) : Prop where
  ok : pok p = true
  dep : dep p ≤ 10
  sz : sz p ≤ 400
  tl : tl p ≤ 1000
def wfP : Pln → Prop
  | .pat p => Wf p
  | .join a b => wfP a ∧ wfP b
  | .eith a b => wfP a ∧ wfP b
  | .wout a b => wfP a ∧ wfP b
  | .only _ a => wfP a
  | .same _ _ a => wfP a
theorem wfP_inr {a : Pln} (h : wfP a) : ∀ b ∈ inr a, wfP b := fun b hb => by
  cases a with
  | pat p => cases hb
  | join x y => simp only [inr, List.mem_cons, List.not_mem_nil, or_false] at hb; rcases hb with rfl | rfl; exact h.1; exact h.2
  | eith x y => simp only [inr, List.mem_cons, List.not_mem_nil, or_false] at hb; rcases hb with rfl | rfl; exact h.1; exact h.2
  | wout x y => simp only [inr, List.mem_cons, List.not_mem_nil, or_false] at hb; rcases hb with rfl | rfl; exact h.1; exact h.2
  | only ns x => simp only [inr, List.mem_cons, List.not_mem_nil, or_false] at hb; subst hb; exact h
  | same u v x => simp only [inr, List.mem_cons, List.not_mem_nil, or_false] at hb; subst hb; exact h
theorem dpP_inr {d : Nat} {a : Pln} (h : dpP a ≤ d + 1) : ∀ b ∈ inr a, dpP b ≤ d := fun b hb => by
  cases a with
  | pat p => cases hb
  | join x y => simp only [inr, List.mem_cons, List.not_mem_nil, or_false] at hb; simp only [dpP] at h; rcases hb with rfl | rfl <;> omega
  | eith x y => simp only [inr, List.mem_cons, List.not_mem_nil, or_false] at hb; simp only [dpP] at h; rcases hb with rfl | rfl <;> omega
  | wout x y => simp only [inr, List.mem_cons, List.not_mem_nil, or_false] at hb; simp only [dpP] at h; rcases hb with rfl | rfl <;> omega
  | only ns x => simp only [inr, List.mem_cons, List.not_mem_nil, or_false] at hb; simp only [dpP] at h; subst hb; omega
  | same u v x => simp only [inr, List.mem_cons, List.not_mem_nil, or_false] at hb; simp only [dpP] at h; subst hb; omega
theorem nb_inr {a : Pln} : ∀ b ∈ inr a, nb b ≤ nb a := fun b hb => by
  cases a with
  | pat p => cases hb
  | join x y => simp only [inr, List.mem_cons, List.not_mem_nil, or_false] at hb; simp only [nb]; rcases hb with rfl | rfl <;> omega
  | eith x y => simp only [inr, List.mem_cons, List.not_mem_nil, or_false] at hb; simp only [nb]; rcases hb with rfl | rfl <;> omega
  | wout x y => simp only [inr, List.mem_cons, List.not_mem_nil, or_false] at hb; simp only [nb]; rcases hb with rfl | rfl <;> omega
  | only ns x => simp only [inr, List.mem_cons, List.not_mem_nil, or_false] at hb; simp only [nb]; subst hb; omega
  | same u v x => simp only [inr, List.mem_cons, List.not_mem_nil, or_false] at hb; simp only [nb]; subst hb; omega
/-- a plan's own fault -/
def own : Pln → Option (List Nat)
  | .pat p => if idl p = true then some (cs "idle") else if tw p = true then some (cs "twice") else none
  | .join a b => if 4 < (nin (.join a b)).length then some (cs "names") else none
  | .eith a b => if 4 < (nin (.eith a b)).length then some (cs "names") else none
  | .wout a b => if nin a = nin b then none else some (cs "unlike")
  | .only ns a => if (ns.filter fun x => !decide (x ∈ nin a)).isEmpty = true then none else some (cs "lacking")
  | .same x y a => if ([x, y].filter fun x => !decide (x ∈ nin a)).isEmpty = true then none else some (cs "lacking")
def ownAt (a : Pln) (pa : List Nat) : Option (List Nat × List Nat) := (own a).map fun w => (pa, w)
/-- the first fault -/
def flt : Pln → List Nat → Option (List Nat × List Nat)
  | .pat p, pa => ownAt (.pat p) pa
  | .join a b, pa => ((flt a (pa ++ [0])).orElse fun _ => flt b (pa ++ [1])).orElse fun _ => ownAt (.join a b) pa
  | .eith a b, pa => ((flt a (pa ++ [0])).orElse fun _ => flt b (pa ++ [1])).orElse fun _ => ownAt (.eith a b) pa
  | .wout a b, pa => ((flt a (pa ++ [0])).orElse fun _ => flt b (pa ++ [1])).orElse fun _ => ownAt (.wout a b) pa
  | .only ns a, pa => (flt a (pa ++ [0])).orElse fun _ => ownAt (.only ns a) pa
  | .same x y a, pa => (flt a (pa ++ [0])).orElse fun _ => ownAt (.same x y a) pa
/-- the first fault of parts -/
def fltL : List Pln → Nat → List Nat → Option (List Nat × List Nat)
  | [], _, _ => none
  | a :: r, k, pa => (flt a (pa ++ [k])).orElse fun _ => fltL r (k + 1) pa
theorem flt_inr (a : Pln) (pa : List Nat) : flt a pa = (fltL (inr a) 0 pa).orElse fun _ => ownAt a pa := by
  cases a <;> simp [flt, inr, fltL, Option.orElse_none]
def encO : Option (List Nat) → Val
  | none => .non
  | some w => .str w
def encF : Option (List Nat × List Nat) → Val
  | none => .non
  | some (pa, w) => .tup [.tup (pa.map fun k => Val.int (k : Nat)), .str w]
theorem eqv_strs : ∀ xs ys : List (List Nat), PyData.eqvAll (dvs (xs.map Val.str)) (dvs (ys.map Val.str)) = decide (xs = ys)
  | [], [] => by simp [dvs, PyData.eqvAll]
  | [], y :: ys => by simp [dvs, PyData.eqvAll]
  | x :: xs, [] => by simp [dvs, PyData.eqvAll]
  | x :: xs, y :: ys => by
    have h := eqv_strs xs ys
    have h2 := ev_ss x y
    rw [List.map_cons, List.map_cons, dvs, dvs, PyData.eqvAll, h]
    have e : PyData.eqv (dv (.str x)) (dv (.str y)) = decide (x = y) := h2
    rw [e, Bool.eq_iff_iff]
    simp
theorem dep_strs (xs : List (List Nat)) (d : PyData) : (min (dv (.tup (xs.map Val.str))).depth d.depth ≤ 64) = True := by
  refine dep_dv ?_
  rw [dpV]
  have : dpVs (xs.map Val.str) ≤ 1 := dpVs_le fun x hx => by
    obtain ⟨z, _, rfl⟩ := List.mem_map.mp hx
    simp [dpV]
  omega
theorem eq_tups (xs ys : List (List Nat)) : PyData.eqv (dv (.tup (xs.map Val.str))) (dv (.tup (ys.map Val.str))) = decide (xs = ys) := by
  rw [dv, dv, PyData.eqv]; exact eqv_strs xs ys
theorem datVs_strL (f : Nat → Option PyData) : ∀ ns : List (List Nat), datVs f (ns.map Val.str) = some (ns.map fun z => PyData.str ⟨z.toArray⟩)
  | [] => rfl
  | z :: ns => by
    rw [List.map_cons, datVs, datVs_strL f ns]
    rfl
theorem any_strL (nm : List Nat) : ∀ ms : List (List Nat), ((ms.map fun z => PyData.str ⟨z.toArray⟩).any fun y => PyData.eqv y (.str ⟨nm.toArray⟩)) = decide (nm ∈ ms)
  | [] => by simp
  | z :: ms => by
    rw [List.map_cons, List.any_cons, any_strL nm ms, ev_ss]
    rw [Bool.eq_iff_iff]
    simp only [Bool.or_eq_true, decide_eq_true_eq, List.mem_cons]
    exact ⟨fun h => h.elim (fun h => .inl h.symm) .inr, fun h => h.elim (fun h => .inl h.symm) .inr⟩
/-- is a text among those of a tuple? -/
theorem in_tupS {neg : Bool} {nm : List Nat} {S : Sto} (ms : List (List Nat)) : gIn neg (.str nm) (.tup (ms.map Val.str)) S = .ok (if neg = true then !decide (nm ∈ ms) else decide (nm ∈ ms)) S := by
  have hd : (PyData.str ⟨nm.toArray⟩).depth ≤ 64 := by simp [PyData.depth]
  have e : gIn neg (.str nm) (.tup (ms.map Val.str)) S = (match datE (.str nm) S, datVs (fun m => dat S deep (.loc m)) (ms.map Val.str) with
      | some d, some ds => if d.depth ≤ 64 then .ok (if neg = true then !ds.any (fun y => PyData.eqv y d) else ds.any fun y => PyData.eqv y d) S else .bad
      | _, _ => .bad) := by
    cases nm with
    | nil => rfl
    | cons c t => cases t <;> rfl
  rw [e]
  simp only [datE_str, datVs_strL, hd, if_true, any_strL]
/-- is a text among those of a list? -/
theorem in_locS {neg : Bool} {nm : List Nat} {q : Nat} {S : Sto} {ms : List (List Nat)} (h : S[q]? = some (.lst (ms.map Val.str))) : gIn neg (.str nm) (.loc q) S = .ok (if neg = true then !decide (nm ∈ ms) else decide (nm ∈ ms)) S := by
  have hd : (PyData.str ⟨nm.toArray⟩).depth ≤ 64 := by simp [PyData.depth]
  have e : gIn neg (.str nm) (.loc q) S = (match S[q]? with
    | some (.lst ys) => (match datE (.str nm) S, datVs (fun m => dat S deep (.loc m)) ys with
      | some d, some ds => if d.depth ≤ 64 then .ok (if neg = true then !ds.any (fun y => PyData.eqv y d) else ds.any fun y => PyData.eqv y d) S else .bad
      | _, _ => .bad)
    | _ => .bad) := by
    cases nm with
    | nil => rfl
    | cons c t => cases t <;> rfl
  rw [e, h]
  simp only [datE_str, datVs_strL, hd, if_true, any_strL]
end Mx

set_option linter.all false
set_option maxRecDepth 100000
set_option maxHeartbeats 4000000
namespace Mx
open L2 PySem
/-! ### rising lists of texts -/
def Rise (zs : List (List Nat)) : Prop := zs.Pairwise (· < ·)
theorem rise_sub {zs ys : List (List Nat)} (h : Rise zs) (s : ys.Sublist zs) : Rise ys := List.Pairwise.sublist s h
theorem rise_nd {zs : List (List Nat)} (h : Rise zs) : zs.Nodup := h.imp fun h e => by rw [e] at h; exact absurd h (List.lt_irrefl _)
theorem rise_eq {xs ys : List (List Nat)} (h : Rise xs) (g : Rise ys) (e : ∀ z, z ∈ xs ↔ z ∈ ys) : xs = ys := by
  refine List.Perm.eq_of_pairwise (fun a b _ _ h1 h2 => ?_) h g ((List.perm_ext_iff_of_nodup (rise_nd h) (rise_nd g)).mpr e)
  exact absurd (List.lt_trans h1 h2) (List.lt_irrefl _)
/-- texts put in order -/
def srtT (zs : List (List Nat)) : List (List Nat) := zs.mergeSort fun a b => decide (a ≤ b)
theorem srtT_perm (zs : List (List Nat)) : (srtT zs).Perm zs := List.mergeSort_perm _ _
theorem srtT_rise {zs : List (List Nat)} (h : zs.Nodup) : Rise (srtT zs) := by
  have q := List.pairwise_mergeSort (le := fun a b : List Nat => decide (a ≤ b)) (fun a b c h1 h2 => by simp only [decide_eq_true_eq] at h1 h2 ⊢; exact List.le_trans h1 h2) (fun a b => by simp only [Bool.or_eq_true, decide_eq_true_eq]; exact List.le_total _ _) zs
  have nd : (srtT zs).Nodup := (srtT_perm zs).nodup_iff.mpr h
  have := List.Pairwise.and q nd
  exact this.imp fun ⟨h1, h2⟩ => by
    have h1 := of_decide_eq_true h1
    exact Classical.byContradiction fun hn => h2 (List.le_antisymm h1 (List.not_lt.mp hn))
theorem dataLe_str (a b : List Nat) : PySem.W.dataLe false (fun d : PyData => d) (.str ⟨a.toArray⟩) (.str ⟨b.toArray⟩) = decide (a ≤ b) := by
  have h := dataLe_kEnc (L := [sK a, sK b]) (by simp [okK, sK, isL]) (sK a) (by simp) (sK b) (by simp)
  have e : PySem.W.dataLe false (fun d : PyData => d) (.str ⟨a.toArray⟩) (.str ⟨b.toArray⟩) = PySem.W.dataLe false kEnc (sK a) (sK b) := rfl
  rw [e, h]
  show (!decide (b.toArray.toList < a.toArray.toList)) = _
  rw [List.toList_toArray, List.toList_toArray, Bool.eq_iff_iff]
  simp
theorem lSort_strs (zs : List (List Nat)) (S : Sto) : lSort (zs.map Val.str) S = some ((srtT zs).map Val.str) := by
  unfold lSort
  rw [datVs_strL]
  have ok : okS (zs.map fun z => PyData.str ⟨z.toArray⟩) = true := by
    unfold okS
    simp only [Bool.and_eq_true, Bool.or_eq_true, List.all_eq_true, List.mem_map, forall_exists_index, and_imp, forall_apply_eq_imp_iff₂]
    refine ⟨⟨fun a _ b _ => rfl, .inr fun a _ => trivial⟩, fun a _ => by simp [PyData.depth]⟩
  simp only [ok, if_true]
  congr 1
  have hz : (zs.map Val.str).zip (zs.map fun z => PyData.str ⟨z.toArray⟩) = zs.map fun z => (Val.str z, PyData.str ⟨z.toArray⟩) := by
    rw [List.zip_map']
  rw [hz]
  have hm := List.map_mergeSort (r := fun a b : List Nat => decide (a ≤ b)) (s := PySem.W.dataLe false fun t : Val × PyData => t.2) (f := fun z : List Nat => (Val.str z, PyData.str ⟨z.toArray⟩)) (l := zs) (fun a _ b _ => (dataLe_str a b).symm)
  rw [← hm, List.map_map]
  rfl
theorem sort_strs {α : Type} {L : α → Sto → Option (List Val)} {m : Ev → M α} {env : Ev} {S S1 : Sto} {x : α} {zs : List (List Nat)} (h : m env S = .ok x S1) (hx : L x S1 = some (zs.map Val.str)) : mSort L m env S = .ok ((srtT zs).map Val.str) S1 := by
  unfold mSort
  rw [h]
  simp only [Out.bind, hx, Option.bind_some, lSort_strs]
theorem kLe_str {a b : List Nat} (h : kLe (sK a) (sK b)) : a ≤ b := by
  have h : a.toArray.toList ≤ b.toArray.toList := h
  rwa [List.toList_toArray, List.toList_toArray] at h
theorem srtN_rise (zs : List (List Nat)) : Rise (srtN zs) := by
  have e := srtN_str zs
  unfold srt at e
  have hk : (sortK (addAll [] (zs.map sK))) = (srtN zs).map sK := by
    have h2 : ((srtN zs).map sK).map kVal = (srtN zs).map Val.str := by
      rw [List.map_map]
      exact List.map_congr_left fun z _ => kVal_s z
    rw [← h2] at e
    have inj : ∀ (xs ys : List Key), xs.map kVal = ys.map kVal → xs = ys := fun xs => by
      induction xs with
      | nil => intro ys h; cases ys with
        | nil => rfl
        | cons _ _ => simp at h
      | cons x xs ih => intro ys h; cases ys with
        | nil => simp at h
        | cons y ys =>
          rw [List.map_cons, List.map_cons, List.cons.injEq] at h
          have hx : x = y := by
            have hh := h.1
            cases x with
            | inl i =>
              cases y with
              | inl j => simp [kVal] at hh; rw [hh]
              | inr j => simp [kVal] at hh
            | inr i =>
              cases y with
              | inl j => simp [kVal] at hh
              | inr j =>
                simp [kVal] at hh
                cases i; cases j
                simp at hh
                rw [hh]
          rw [hx, ih ys h.2]
    exact inj _ _ e
  have hs := sortK_srt (N := addAll [] (zs.map sK)) (okK_iff (okK_s zs))
  rw [hk, List.pairwise_map] at hs
  have nd : (addAll [] (zs.map sK)).Nodup := addAll_nodup (zs.map sK) [] List.Pairwise.nil
  have nd2 : (sortK (addAll [] (zs.map sK))).Nodup := (List.mergeSort_perm _ _).nodup_iff.mpr nd
  rw [hk] at nd2
  have nd3 : (srtN zs).Nodup := by
    have := List.pairwise_map.mp nd2
    exact this.imp fun h e => h (by rw [e])
  have := List.Pairwise.and hs nd3
  exact this.imp fun ⟨h1, h2⟩ => Classical.byContradiction fun hn => h2 (List.le_antisymm (kLe_str h1) (List.not_lt.mp hn))
theorem srtN_of {zs ns : List (List Nat)} (h : Rise ns) (e : ∀ z, z ∈ zs ↔ z ∈ ns) : srtN zs = ns := rise_eq (srtN_rise zs) h fun z => (srtN_mem zs z).trans (e z)
/-! ### rows and anys put together -/
def flatR : List Pat → List Pat
  | [] => []
  | .row qs :: ps => qs ++ flatR ps
  | .sign x :: ps => .sign x :: flatR ps
  | .any x :: ps => .any x :: flatR ps
  | .some a b x :: ps => .some a b x :: flatR ps
  | .mark a x :: ps => .mark a x :: flatR ps
def flatA : List Pat → List Pat
  | [] => []
  | .any qs :: ps => qs ++ flatA ps
  | .sign x :: ps => .sign x :: flatA ps
  | .row x :: ps => .row x :: flatA ps
  | .some a b x :: ps => .some a b x :: flatA ps
  | .mark a x :: ps => .mark a x :: flatA ps
def rowOf (ps : List Pat) : Pat := match flatR ps with
  | [x] => x
  | l => .row l
def anyOf (ps : List Pat) : Pat := .any (flatA ps)
theorem flatR_mxs (z : List Nat) : ∀ ps, mxs z (flatR ps) = mxs z ps
  | [] => rfl
  | .row qs :: ps => by rw [flatR, mxs_app, flatR_mxs z ps, mxs, mx]
  | .sign x :: ps => by rw [flatR, mxs, mxs, flatR_mxs z ps]
  | .any x :: ps => by rw [flatR, mxs, mxs, flatR_mxs z ps]
  | .some a b x :: ps => by rw [flatR, mxs, mxs, flatR_mxs z ps]
  | .mark a x :: ps => by rw [flatR, mxs, mxs, flatR_mxs z ps]
theorem flatA_mxm (z : List Nat) : ∀ ps, mxm z (flatA ps) = mxm z ps
  | [] => rfl
  | .any qs :: ps => by rw [flatA, mxm_app, flatA_mxm z ps, mxm, mx]
  | .sign x :: ps => by rw [flatA, mxm, mxm, flatA_mxm z ps]
  | .row x :: ps => by rw [flatA, mxm, mxm, flatA_mxm z ps]
  | .some a b x :: ps => by rw [flatA, mxm, mxm, flatA_mxm z ps]
  | .mark a x :: ps => by rw [flatA, mxm, mxm, flatA_mxm z ps]
theorem flatR_mk : ∀ ps, mkPs (flatR ps) = mkPs ps
  | [] => rfl
  | .row qs :: ps => by rw [flatR, mkPs_app, flatR_mk ps, mkPs, mkP]
  | .sign x :: ps => by rw [flatR, mkPs, mkPs, flatR_mk ps]
  | .any x :: ps => by rw [flatR, mkPs, mkPs, flatR_mk ps]
  | .some a b x :: ps => by rw [flatR, mkPs, mkPs, flatR_mk ps]
  | .mark a x :: ps => by rw [flatR, mkPs, mkPs, flatR_mk ps]
theorem flatA_mk : ∀ ps, mkPs (flatA ps) = mkPs ps
  | [] => rfl
  | .any qs :: ps => by rw [flatA, mkPs_app, flatA_mk ps, mkPs, mkP]
  | .sign x :: ps => by rw [flatA, mkPs, mkPs, flatA_mk ps]
  | .row x :: ps => by rw [flatA, mkPs, mkPs, flatA_mk ps]
  | .some a b x :: ps => by rw [flatA, mkPs, mkPs, flatA_mk ps]
  | .mark a x :: ps => by rw [flatA, mkPs, mkPs, flatA_mk ps]
theorem flatR_bP : ∀ ps, bPa (flatR ps) = bPa ps
  | [] => rfl
  | .row qs :: ps => by
    have app : ∀ (ps qs : List Pat), bPa (ps ++ qs) = (bPa ps && bPa qs) := fun ps => by
      induction ps with
      | nil => intro qs; rfl
      | cons p ps ih => intro qs; rw [List.cons_append, bPa, ih, bPa, Bool.and_assoc]
    rw [flatR, app, flatR_bP ps, bPa, bP]
  | .sign x :: ps => by rw [flatR, bPa, bPa, flatR_bP ps]
  | .any x :: ps => by rw [flatR, bPa, bPa, flatR_bP ps]
  | .some a b x :: ps => by rw [flatR, bPa, bPa, flatR_bP ps]
  | .mark a x :: ps => by rw [flatR, bPa, bPa, flatR_bP ps]
theorem flatA_bP : ∀ ps, bPo (flatA ps) = bPo ps
  | [] => rfl
  | .any qs :: ps => by
    have app : ∀ (ps qs : List Pat), bPo (ps ++ qs) = (bPo ps || bPo qs) := fun ps => by
      induction ps with
      | nil => intro qs; rfl
      | cons p ps ih => intro qs; rw [List.cons_append, bPo, ih, bPo, Bool.or_assoc]
    rw [flatA, app, flatA_bP ps, bPo, bP]
  | .sign x :: ps => by rw [flatA, bPo, bPo, flatA_bP ps]
  | .row x :: ps => by rw [flatA, bPo, bPo, flatA_bP ps]
  | .some a b x :: ps => by rw [flatA, bPo, bPo, flatA_bP ps]
  | .mark a x :: ps => by rw [flatA, bPo, bPo, flatA_bP ps]
theorem flatR_deps : ∀ ps, deps (flatR ps) ≤ deps ps
  | [] => Nat.le_refl _
  | .row qs :: ps => by rw [flatR, deps_app, deps, dep]; have := flatR_deps ps; omega
  | .sign x :: ps => by rw [flatR, deps, deps]; have := flatR_deps ps; omega
  | .any x :: ps => by rw [flatR, deps, deps]; have := flatR_deps ps; omega
  | .some a b x :: ps => by rw [flatR, deps, deps]; have := flatR_deps ps; omega
  | .mark a x :: ps => by rw [flatR, deps, deps]; have := flatR_deps ps; omega
theorem flatA_deps : ∀ ps, deps (flatA ps) ≤ deps ps
  | [] => Nat.le_refl _
  | .any qs :: ps => by rw [flatA, deps_app, deps, dep]; have := flatA_deps ps; omega
  | .sign x :: ps => by rw [flatA, deps, deps]; have := flatA_deps ps; omega
  | .row x :: ps => by rw [flatA, deps, deps]; have := flatA_deps ps; omega
  | .some a b x :: ps => by rw [flatA, deps, deps]; have := flatA_deps ps; omega
  | .mark a x :: ps => by rw [flatA, deps, deps]; have := flatA_deps ps; omega
end Mx

set_option linter.all false
set_option maxRecDepth 100000
set_option maxHeartbeats 1000000
namespace Mx
/-! ### statements, one behind another, what comes later left as it stands -/
section
variable {a b c' : SM} {c : Ev → M Bool} {e : Ev → M Val} {env : Ev} {S : Sto} {Q : Fl × Ev → Sto → Prop}
theorem wp_seqN (h : Wp (a env S) fun r S1 => ∃ e, r = (.nx, e) ∧ Wp (b e S1) Q) : Wp (sSeq a b env S) Q := by
  show Wp ((a env S).bind _) Q
  rw [wp_bind]
  refine Wp.mono h fun r S1 ⟨env1, e, h1⟩ => ?_
  subst e
  exact h1
theorem wp_seqR (h : Wp (a env S) fun r S1 => ∃ v e, r = (.rt v, e) ∧ Q (.rt v, e) S1) : Wp (sSeq a b env S) Q := by
  show Wp ((a env S).bind _) Q
  rw [wp_bind]
  refine Wp.mono h fun r S1 ⟨v, env1, e, h1⟩ => ?_
  subst e
  exact h1
theorem wp_ifT (h : Wp (c env S) fun x S2 => x = true ∧ S2 = S) (k : Wp (a env S) Q) : Wp (sIf c a b env S) Q := by
  show Wp ((c env S).bind _) Q
  rw [wp_bind]
  refine Wp.mono h fun x S2 ⟨h1, h2⟩ => ?_
  subst h1 h2
  exact k
theorem wp_ifF (h : Wp (c env S) fun x S2 => x = false ∧ S2 = S) (k : Wp (b env S) Q) : Wp (sIf c a b env S) Q := by
  show Wp ((c env S).bind _) Q
  rw [wp_bind]
  refine Wp.mono h fun x S2 ⟨h1, h2⟩ => ?_
  subst h1 h2
  exact k
theorem wp_skip (h : Wp (c env S) fun x S2 => x = false ∧ S2 = S) (k : Wp (b env S) Q) : Wp (sSeq (sIf c a sNx) b env S) Q := wp_seqN (wp_ifF h ⟨env, rfl, k⟩)
theorem wp_take (h : Wp (c env S) fun x S2 => x = true ∧ S2 = S) (k : Wp (a env S) fun r S1 => ∃ v e, r = (.rt v, e) ∧ Q (.rt v, e) S1) : Wp (sSeq (sIf c a c') b env S) Q := wp_seqR (wp_ifT h k)
theorem wp_asg {j : Nat} (h : Wp (e env S) fun x S1 => Wp (b (env.set j (some x)) S1) Q) : Wp (sSeq (sAsg (.name j) e) b env S) Q := by
  refine wp_seqN ?_
  show Wp ((e env S).bind _) _
  rw [wp_bind]
  exact Wp.mono h fun x S1 h1 => ⟨_, rfl, h1⟩
theorem wp_asgL {j : Nat} {m : Ev → M (List Val)} (h : Wp (m env S) fun xs S1 => Wp (b (env.set j (some (.loc S1.length))) (S1 ++ [.lst xs])) Q) : Wp (sSeq (sAsg (.name j) (mNew m)) b env S) Q := by
  refine wp_asg ?_
  show Wp ((m env S).bind _) _
  rw [wp_bind]
  exact Wp.mono h fun x S1 h1 => h1
theorem wp_draw {g : List Val → M Val} (hg : DrS g) {j D C m : Nat} {k : Int} (h0 : env[0]? = some (some (.loc D))) (d : Dk S D C m) (hm : m < 2 ^ 40) (k0 : 0 < k) (k1 : k < 2 ^ 40)
    (h : ∀ (i : Int) S', 0 ≤ i → i < k → Dk S' D C (m + 1) → Kp S S' D C → Wp (b (env.set j (some (.int i))) S') Q) : Wp (sSeq (sAsg (.name j) (mCall g (mCons (mVar 0) (mCons (mC (.int k)) mNil)))) b env S) Q := by
  refine wp_asg ?_
  simp only [mCall, mCons, mVar, h0, mC, mNil, wp_bind, wp_ok]
  exact hg.go d hm k0 k1 fun i S' a b c e => h i S' a b c e
end
end Mx

set_option linter.all false
set_option maxRecDepth 100000
set_option maxHeartbeats 1000000
namespace Mx
open L2 PySem
/-! ### an instance that reads a text -/
abbrev RF (s : List Nat) (p k : Nat) : List (Str × Val) := [("signs", .str s), ("place", .int (p : Nat)), ("open_ones", .int (k : Nat))]
/-- the reading at r is at place p of s, k brackets open -/
def Rg (S : Sto) (r : Nat) (s : List Nat) (p k : Nat) : Prop := S[r]? = some (.ins "Reading" (RF s p k)) ∧ s.length ≤ 40000
section
variable {S S' : Sto} {r p k : Nat} {s : List Nat}
theorem Rg.lt (h : Rg S r s p k) : r < S.length := get_lt h.1
theorem Rg.app {T : Sto} (h : Rg S r s p k) : Rg (S ++ T) r s p k := ⟨app_get h.1, h.2⟩
theorem Rg.take {n : Nat} (h : Rg S r s p k) (l : r < n) : Rg (S.take n) r s p k := ⟨by rw [List.getElem?_take_of_lt l]; exact h.1, h.2⟩
theorem Rg.ext (h : Rg S r s p k) (e : Ext S S') : Rg S' r s p k := ⟨e.get h.1, h.2⟩
theorem Rg.set {q : Nat} {o : Ob} (h : Rg S r s p k) (ne : q ≠ r) : Rg (S.set q o) r s p k := ⟨by rw [List.getElem?_set_ne ne]; exact h.1, h.2⟩
theorem fld_s (h : Rg S r s p k) : gFld "Reading" "signs" (.loc r) S = .ok (.str s) S := by
  unfold gFld
  simp only [h.1]
  rfl
theorem fld_p (h : Rg S r s p k) : gFld "Reading" "place" (.loc r) S = .ok (.int (p : Nat)) S := by
  unfold gFld
  simp only [h.1]
  rfl
theorem fld_k (h : Rg S r s p k) : gFld "Reading" "open_ones" (.loc r) S = .ok (.int (k : Nat)) S := by
  unfold gFld
  simp only [h.1]
  rfl
theorem put_p {q : Nat} {env : Ev} (h : Rg S r s p k) : putO "Reading" "place" (.loc r) (.int (q : Nat)) env S = .ok (.nx, env) (S.set r (.ins "Reading" (RF s q k))) := by
  unfold putO
  simp only [h.1]
  rfl
theorem put_k {q : Nat} {env : Ev} (h : Rg S r s p k) : putO "Reading" "open_ones" (.loc r) (.int (q : Nat)) env S = .ok (.nx, env) (S.set r (.ins "Reading" (RF s p q))) := by
  unfold putO
  simp only [h.1]
  rfl
theorem rg_set {q j : Nat} (h : Rg S r s p k) : Rg (S.set r (.ins "Reading" (RF s q j))) r s q j := ⟨by rw [List.getElem?_set_self h.lt], h.2⟩
theorem kp_setr {o : Ob} {q : Nat} : Kp S (S.set r o) r q := ⟨by rw [List.length_set]; exact Nat.le_refl _, fun n _ d _ => List.getElem?_set_ne (Ne.symm d)⟩
theorem Kp.wide {q : Nat} (h : Kp S S' r r) : Kp S S' r q := ⟨h.le, fun n l d _ => h.get n l d d⟩
theorem Kp.wide2 {q : Nat} (h : Kp S S' r r) : Kp S S' q r := ⟨h.le, fun n l _ d => h.get n l d d⟩
theorem rd_adv {env : Ev} {i : Nat} (h : Rg S r s p k) (hi : env[i]? = some (some (.loc r))) : sFldA "Reading" "place" gIAdd (mVar i) (mC (.int 1)) env S = .ok (.nx, env) (S.set r (.ins "Reading" (RF s (p + 1) k))) := by
  have e := put_p (q := p + 1) (env := env) h
  rw [show ((p + 1 : Nat) : Int) = (p : Int) + 1 by omega] at e
  simp only [sFldA, mVar, hi, mC, Out.bind, fld_p h, gIAdd, e]
theorem rd_in {env : Ev} {i : Nat} (h : Rg S r s p k) (hi : env[i]? = some (some (.loc r))) : sFldA "Reading" "open_ones" gIAdd (mVar i) (mC (.int 1)) env S = .ok (.nx, env) (S.set r (.ins "Reading" (RF s p (k + 1)))) := by
  have e := put_k (q := k + 1) (env := env) h
  rw [show ((k + 1 : Nat) : Int) = (k : Int) + 1 by omega] at e
  simp only [sFldA, mVar, hi, mC, Out.bind, fld_k h, gIAdd, e]
theorem rd_out {env : Ev} {i : Nat} (h : Rg S r s p (k + 1)) (hi : env[i]? = some (some (.loc r))) : sFldA "Reading" "open_ones" gSub (mVar i) (mC (.int 1)) env S = .ok (.nx, env) (S.set r (.ins "Reading" (RF s p k))) := by
  have e := put_k (q := k) (env := env) h
  have e2 : ((k + 1 : Nat) : Int) - 1 = (k : Int) := by omega
  simp only [sFldA, mVar, hi, mC, Out.bind, fld_k h, gSub, e2, e]
/-- a run that moves the reading -/
def Rw {α : Type} (o : Out α) (S : Sto) (r : Nat) (s : List Nat) (p k : Nat) (P : α → Prop) : Prop := Wp o fun v S' => P v ∧ Rg S' r s p k ∧ Kp S S' r r
theorem rw_trm {g : List Val → M Val} {xs : List Val} {P : Val → Prop} (l : r < S.length) (h : Rw (g xs S) S r s p k P) : Rw (trm g xs S) S r s p k P :=
  wp_trm h fun v S1 ⟨a, b, c⟩ _ _ => ⟨a, b.take l, c.take⟩
/-! ### slices of one sign -/
theorem cut_one {p : Nat} : cut s (some (p : Nat)) (some ((p : Nat) + 1)) = (s.drop p).take 1 := by
  unfold cut
  have h1 : HT.sIx s.length 0 (some (p : Int)) = min p s.length := by
    simp only [HT.sIx]
    split <;> omega
  have h2 : HT.sIx s.length s.length (some ((p : Int) + 1)) = min (p + 1) s.length := by
    simp only [HT.sIx]
    split <;> omega
  rw [h1, h2]
  by_cases h : p < s.length
  · rw [Nat.min_eq_left (by omega), Nat.min_eq_left (by omega), Nat.add_sub_cancel_left]
  · rw [Nat.min_eq_right (by omega), Nat.min_eq_right (by omega), Nat.sub_self, List.take_zero, List.drop_eq_nil_of_le (by omega), List.take_nil]
theorem drop_app {a b : List Nat} (e : s.drop p = a ++ b) : s.drop (p + a.length) = b := by rw [← List.drop_drop, e, List.drop_left]
theorem drop_cons {c : Nat} {b : List Nat} (e : s.drop p = c :: b) : s.drop (p + 1) = b := by rw [← List.drop_drop, e]; rfl
/-! ### turns of a while -/
theorem wp_whF {t : Ev → M Bool} {b : SM} {j : Nat} {env : Ev} {Q : Fl × Ev → Sto → Prop} (h : Wp (t env S) fun x S2 => x = false ∧ S2 = S) (q : Q (.nx, env) S) : Wp (whileI t b (j + 1) env S) Q := by
  show Wp ((t env S).bind _) Q
  rw [wp_bind]
  refine Wp.mono h fun x S2 ⟨h1, h2⟩ => ?_
  subst h1 h2
  exact q
theorem wp_whT {t : Ev → M Bool} {b : SM} {j : Nat} {env : Ev} {Q : Fl × Ev → Sto → Prop} (h : Wp (t env S) fun x S2 => x = true ∧ S2 = S) (q : Wp (b env S) fun r S2 => ∃ e, r = (.nx, e) ∧ Wp (whileI t b j e S2) Q) : Wp (whileI t b (j + 1) env S) Q := by
  show Wp ((t env S).bind _) Q
  rw [wp_bind]
  refine Wp.mono h fun x S2 ⟨h1, h2⟩ => ?_
  subst h1 h2
  rw [if_pos rfl, wp_bind]
  refine Wp.mono q fun r S2 ⟨e, h1, h2⟩ => ?_
  subst h1
  exact h2
end
/-- a text among four texts -/
theorem in_four {nm a b c d : List Nat} {S : Sto} : gIn true (.str nm) (.tup [.str a, .str b, .str c, .str d]) S = .ok (!(decide (a = nm) || (decide (b = nm) || (decide (c = nm) || decide (d = nm))))) S := by
  have hd : (PyData.str ⟨nm.toArray⟩).depth ≤ 64 := by simp [PyData.depth]
  have e : gIn true (.str nm) (.tup [.str a, .str b, .str c, .str d]) S = (match datE (.str nm) S, datVs (fun m => dat S deep (.loc m)) [.str a, .str b, .str c, .str d] with
    | some d, some ds => if d.depth ≤ 64 then .ok (if true = true then !ds.any (fun y => PyData.eqv y d) else ds.any fun y => PyData.eqv y d) S else .bad
    | _, _ => .bad) := by
    cases nm with
    | nil => rfl
    | cons x nm => cases nm <;> rfl
  rw [e]
  have e2 : datVs (fun m => dat S deep (.loc m)) [.str a, .str b, .str c, .str d] = some [.str ⟨a.toArray⟩, .str ⟨b.toArray⟩, .str ⟨c.toArray⟩, .str ⟨d.toArray⟩] := rfl
  rw [datE_str, e2]
  simp only [if_pos hd, List.any_cons, List.any_nil, Bool.or_false, ev_ss, if_true]
theorem wp_runF {b : SM} {m N : Nat} {xs : List Val} {S : Sto} {Q : Val → Sto → Prop} (hl : xs.length = m) (h : Wp (b (xs.map some ++ List.replicate (N - xs.length) none) S) fun z S' => (∃ v e, z = (.rt v, e) ∧ Q v S') ∨ (∃ e, z = (.nx, e) ∧ Q .non S')) : Wp (runF m N b xs S) Q := by
  unfold runF
  rw [if_pos hl, wp_bind]
  refine Wp.mono h fun z S' h => ?_
  rcases h with ⟨v, e, rfl, q⟩ | ⟨e, rfl, q⟩
  · exact q
  · exact q
theorem wp_ret {e : Ev → M Val} {env : Ev} {S : Sto} {Q : Fl × Ev → Sto → Prop} (h : Wp (e env S) fun v S' => Q (.rt v, env) S') : Wp (sRet e env S) Q := by
  show Wp ((e env S).bind _) Q
  rw [wp_bind]
  exact h
theorem sWhile_eq {t : Ev → M Bool} {b : SM} {env : Ev} {S : Sto} : sWhile t b env S = whileI t b whiles env S := rfl
theorem wp_whS {t : Ev → M Bool} {a b : SM} {env : Ev} {S : Sto} {Q : Fl × Ev → Sto → Prop} (h : ∀ j, 900000 < j → Wp (whileI t b j env S) fun r S1 => ∃ e, r = (.nx, e) ∧ Wp (a e S1) Q) : Wp (sSeq (sWhile t b) a env S) Q := wp_seqN (by rw [sWhile_eq]; exact h whiles (by decide))
theorem wp_asgU {ts : List Tg} {e : Ev → M Val} {b : SM} {env : Ev} {S : Sto} {Q : Fl × Ev → Sto → Prop} (h : Wp (e env S) fun x S1 => ∃ env1, tgU ts x env S1 = some env1 ∧ Wp (b env1 S1) Q) : Wp (sSeq (sAsgU ts e) b env S) Q := by
  refine wp_seqN ?_
  show Wp ((e env S).bind _) _
  rw [wp_bind]
  refine Wp.mono h fun x S1 ⟨env1, h1, h2⟩ => ?_
  show Wp (match tgU ts x env S1 with | some env1 => Out.ok (Fl.nx, env1) S1 | none => .bad) _
  rw [h1]
  exact ⟨_, rfl, h2⟩
theorem tgU_two {q i j : Nat} {x y : Val} {env : Ev} {S : Sto} (h : S[q]? = some (.lst [x, y])) : tgU [.name i, .name j] (.loc q) env S = some ((env.set i (some x)).set j (some y)) := by
  unfold tgU
  simp only [h]
  rfl
theorem wp_ifG {c : Ev → M Bool} {a b : SM} {env : Ev} {S : Sto} {Q : Fl × Ev → Sto → Prop} (h : Wp (c env S) fun x S1 => (x = true → Wp (a env S1) fun r S2 => ∃ v e, r = (.rt v, e) ∧ Q (.rt v, e) S2) ∧ (x = false → Wp (b env S1) Q)) : Wp (sSeq (sIf c a sNx) b env S) Q := by
  show Wp (((c env S).bind fun x S1 => if x = true then a env S1 else sNx env S1).bind _) Q
  rw [wp_bind, wp_bind]
  refine Wp.mono h fun x S1 ⟨h1, h2⟩ => ?_
  cases x with
  | true =>
    rw [if_pos rfl]
    refine Wp.mono (h1 rfl) fun r S2 ⟨v, e, h3, h4⟩ => ?_
    subst h3
    exact h4
  | false =>
    rw [if_neg (by decide)]
    exact h2 rfl
theorem cut_takeN {α : Type} {xs : List α} {c : Nat} (h : c ≤ xs.length) : cut xs none (some (c : Int)) = xs.take c := by
  unfold cut
  have h1 : HT.sIx xs.length xs.length (some (c : Int)) = c := by
    simp only [HT.sIx]
    split <;> omega
  rw [h1]
  rfl
theorem cut_dropN {α : Type} {xs : List α} {c : Nat} (h : c ≤ xs.length) : cut xs (some (c : Int)) none = xs.drop c := by
  unfold cut
  have h1 : HT.sIx xs.length 0 (some (c : Int)) = c := by
    simp only [HT.sIx]
    split <;> omega
  have h2 : HT.sIx xs.length xs.length none = xs.length := rfl
  rw [h1, h2, List.take_of_length_le (by rw [List.length_drop]; exact Nat.le_refl _)]
end Mx

set_option linter.all false
set_option maxRecDepth 100000
set_option maxHeartbeats 4000000
namespace Mx.K07
open Mx L2 PySem
theorem dr (n : Nat) : DrS (Fn (n + 1) 6) := draw_S
theorem c_sq : cs "[" = [91] := rfl
theorem c_lt : cs "<" = [60] := rfl
theorem c_dot : cs "." = [46] := rfl
theorem c_par : cs "(" = [40] := rfl
theorem c_bar : cs "|" = [124] := rfl
theorem c_close : cs ")" = [41] := rfl
theorem c_gt : cs ">" = [62] := rfl
theorem c_col : cs ":" = [58] := rfl
theorem c_e : cs "" = [] := rfl
/-! ### parts spread; texts of patterns -/
def spr1 (b : Bool) : Pat → List Pat
  | .row qs => if b then qs else [.row qs]
  | .any qs => if b then [.any qs] else qs
  | p => [p]
def spr (b : Bool) (ps : List Pat) : List Pat := ps.flatMap (spr1 b)
theorem spr_app {b : Bool} {ps qs : List Pat} : spr b (ps ++ qs) = spr b ps ++ spr b qs := List.flatMap_append
theorem spr_nil {b : Bool} : spr b [] = [] := rfl
theorem spr_cons {b : Bool} {p : Pat} {ps : List Pat} : spr b (p :: ps) = spr1 b p ++ spr b ps := rfl
theorem szs_spr1 (b : Bool) (p : Pat) : szs (spr1 b p) ≤ sz p := by
  cases p <;> cases b <;> simp [spr1, szs, sz]
theorem szs_spr (b : Bool) : ∀ ps, szs (spr b ps) ≤ szs ps
  | [] => Nat.le_refl _
  | p :: ps => by
    rw [spr_cons, szs_app, szs]
    have := szs_spr1 b p
    have := szs_spr b ps
    omega
abbrev wd (b : Bool) : List Nat := if b then cs "row" else cs "any"
/-! ### letters -/
theorem letters_ok {S : Sto} {D C m n : Nat} {cnt : Nat} (hc : cnt ≤ 100) (hd : Dk S D C m) (hm : m + 100 ≤ 2 ^ 39) : Dw (Fn (n + 2) 32 [.loc D, .int (cnt : Nat)] S) S D C (m + cnt) fun v _ => ∃ z : List Nat, v = .str z ∧ z.length = cnt ∧ ∀ c ∈ z, c ∈ cs "abcdefghijklmnopqrstuvwxyz" := by
  rw [fn__law_letters]
  refine dw_trm hd.ltD hd.ltC ?_ fun _ _ p _ _ _ => p
  unfold Dw runF b__law_letters
  have hl : (cs "abcdefghijklmnopqrstuvwxyz").length = 26 := by decide +kernel
  have f1 : ((cnt : Int).natAbs ≤ 100000) = True := eq_true (by omega)
  have f2 : (cnt : Int).toNat = cnt := by omega
  have f3 : (upTo 0 cnt).length = cnt := upTo_len
  have c0 : cs "" = [] := rfl
  simp only [List.length_cons, List.length_nil, List.map_cons, List.map_nil, Nat.zero_add, Nat.reduceAdd, Nat.reduceSub, Nat.reduceLeDiff, List.replicate, List.cons_append, List.nil_append, if_true, ite_true, and_self, true_and, sSeq, sAsg, sRet, sIf, sNx, sExp, mC, mOp, mUn, mVar, mCall, mCons, mNil, mLst, mTup, mNew, mSl, mNoPart, mPart, mJoin, mLc, mRng1, mRng2, tgM_name, tgM_tup, tgMs_nil, tgMs_cons, Option.bind_some, wp_bind, wp_ok, Src.size, wip, asL, lim_v, List.set_cons_succ, List.set_cons_zero, List.getElem?_cons_zero, List.getElem?_cons_succ, gPlus, gAdd, f1, f2, f3, c0]
  refine Wp.mono (draws_chr (dr n) (by rw [hl]; rfl) (by rw [hl, lim_v]; decide) (by decide) rfl (by decide) hd (by omega) (by rw [lim_v]; omega)) fun ys S2 ⟨d2, k2, w, e, w1, w2⟩ => ?_
  rw [e, join_chr (by rw [w1, lim_v]; omega)]
  simp only [List.length_cons, List.length_nil, List.map_cons, List.map_nil, Nat.zero_add, Nat.reduceAdd, Nat.reduceSub, Nat.reduceLeDiff, List.replicate, List.cons_append, List.nil_append, if_true, ite_true, and_self, true_and, sSeq, sAsg, sRet, sIf, sNx, sExp, mC, mOp, mUn, mVar, mCall, mCons, mNil, mLst, mTup, mNew, mSl, mNoPart, mPart, mJoin, mLc, mRng1, mRng2, tgM_name, tgM_tup, tgMs_nil, tgMs_cons, Option.bind_some, wp_bind, wp_ok, Src.size, wip, asL, lim_v, List.set_cons_succ, List.set_cons_zero, List.getElem?_cons_zero, List.getElem?_cons_succ, gPlus, gAdd]
  exact ⟨d2, k2, w, rfl, w1, w2⟩
section
variable {S : Sto} {D C m n : Nat}
/-- a name: one to eight small letters -/
def OkN (nm : List Nat) : Prop := nm ≠ [] ∧ nm.length ≤ 8 ∧ ∀ c ∈ nm, c ∈ cs "abcdefghijklmnopqrstuvwxyz"
theorem names_ok {cnt : Nat} (hc : cnt ≤ 10) (hd : Dk S D C m) (hm : m + 200 ≤ 2 ^ 39) :
    Dw (Fn (n + 3) 7 [.loc D, .int (cnt : Nat)] S) S D C (m + 20) fun v S' => ∃ (q : Nat) (names : List (List Nat)), v = .loc q ∧ S.length ≤ q ∧ S'[q]? = some (.lst (names.map Val.str)) ∧ names.length = cnt ∧ ∀ nm ∈ names, OkN nm := by
  rw [fn__law_names]
  refine dw_trm hd.ltD hd.ltC ?_ fun v S1 ⟨q, names, e, h, _⟩ _ b _ => by
    subst e
    have : q < S.length := of_decide_eq_true b
    omega
  unfold Dw runF b__law_names
  have hl : (cs "abcdefghijklmnopqrstuvwxyz").length = 26 := by decide +kernel
  simp only [List.length_cons, List.length_nil, List.map_cons, List.map_nil, Nat.zero_add, Nat.reduceAdd, Nat.reduceSub, Nat.reduceLeDiff, List.replicate, List.cons_append, List.nil_append, if_true, ite_true, and_self, true_and, sSeq, sAsg, sRet, sIf, sNx, sExp, mC, mOp, mUn, mVar, mCall, mCons, mNil, mLst, mTup, mNew, mSl, mNoPart, mPart, mJoin, mLc, mRng1, mRng2, tgM_name, tgM_tup, tgMs_nil, tgMs_cons, Option.bind_some, wp_bind, wp_ok, Src.size, wip, asL, lim_v, List.set_cons_succ, List.set_cons_zero, List.getElem?_cons_zero, List.getElem?_cons_succ, gPlus, gAdd]
  refine (dr (n + 1)).go hd.app (by omega) (by decide) (by decide) fun i S1 g1 h1 d1 k1 => ?_
  obtain ⟨x, hx, ex⟩ := pick_ix hd k1 g1 h1
  obtain ⟨a, ha, rfl⟩ : ∃ a : Nat, a ≤ 7 ∧ x = .int (a : Nat) := by
    simp only [List.mem_cons, List.not_mem_nil, or_false] at hx
    rcases hx with rfl | rfl | rfl | rfl | rfl | rfl | rfl | rfl
    · exact ⟨0, by omega, rfl⟩
    · exact ⟨0, by omega, rfl⟩
    · exact ⟨1, by omega, rfl⟩
    · exact ⟨2, by omega, rfl⟩
    · exact ⟨3, by omega, rfl⟩
    · exact ⟨5, by omega, rfl⟩
    · exact ⟨6, by omega, rfl⟩
    · exact ⟨7, by omega, rfl⟩
  simp only [List.length_cons, List.length_nil, List.map_cons, List.map_nil, Nat.zero_add, Nat.reduceAdd, Nat.reduceSub, Nat.reduceLeDiff, List.replicate, List.cons_append, List.nil_append, if_true, ite_true, and_self, true_and, sSeq, sAsg, sRet, sIf, sNx, sExp, mC, mOp, mUn, mVar, mCall, mCons, mNil, mLst, mTup, mNew, mSl, mNoPart, mPart, mJoin, mLc, mRng1, mRng2, tgM_name, tgM_tup, tgMs_nil, tgMs_cons, Option.bind_some, wp_bind, wp_ok, Src.size, wip, asL, lim_v, List.set_cons_succ, List.set_cons_zero, List.getElem?_cons_zero, List.getElem?_cons_succ, gPlus, gAdd, ex]
  refine Wp.mono (letters_ok (n := n) (by omega) d1 (by omega)) fun v S2 ⟨d2, k2, z, e, hz, hzl⟩ => ?_
  subst e
  have hz1 : (z.length ≤ 100000) = True := eq_true (by omega)
  simp only [List.length_cons, List.length_nil, List.map_cons, List.map_nil, Nat.zero_add, Nat.reduceAdd, Nat.reduceSub, Nat.reduceLeDiff, List.replicate, List.cons_append, List.nil_append, if_true, ite_true, and_self, true_and, sSeq, sAsg, sRet, sIf, sNx, sExp, mC, mOp, mUn, mVar, mCall, mCons, mNil, mLst, mTup, mNew, mSl, mNoPart, mPart, mJoin, mLc, mRng1, mRng2, tgM_name, tgM_tup, tgMs_nil, tgMs_cons, Option.bind_some, wp_bind, wp_ok, Src.size, wip, asL, lim_v, List.set_cons_succ, List.set_cons_zero, List.getElem?_cons_zero, List.getElem?_cons_succ, gPlus, gAdd, gLen, hz1]
  refine (dr (n + 1)).go d2 (by omega) (by omega) (by omega) fun i2 S3 g3 h3 d3 k3 => ?_
  obtain ⟨cc, rfl⟩ : ∃ cc : Nat, i2 = cc := ⟨i2.toNat, by omega⟩
  refine (dr (n + 1)).go d3 (by omega) (by decide) (by decide) fun i3 S4 g4 h4 d4 k4 => ?_
  refine (dr (n + 1)).go d4.app (by omega) (by decide) (by decide) fun i4 S5 g5 h5 d5 k5 => ?_
  obtain ⟨x, hx, ex⟩ := pick_ix d4 k5 g5 h5
  obtain ⟨b, hb, rfl⟩ : ∃ b : Int, b.natAbs ≤ 17 ∧ x = .int b := by
    simp only [List.mem_cons, List.not_mem_nil, or_false] at hx
    rcases hx with rfl | rfl | rfl | rfl | rfl | rfl | rfl | rfl <;> exact ⟨_, by decide, rfl⟩
  have f4 : ((cnt : Int).natAbs ≤ 100000) = True := eq_true (by omega)
  have f5 : (cnt : Int).toNat = cnt := by omega
  have f6 : (upTo 0 cnt).length = cnt := upTo_len
  simp only [List.length_cons, List.length_nil, List.map_cons, List.map_nil, Nat.zero_add, Nat.reduceAdd, Nat.reduceSub, Nat.reduceLeDiff, List.replicate, List.cons_append, List.nil_append, if_true, ite_true, and_self, true_and, sSeq, sAsg, sRet, sIf, sNx, sExp, mC, mOp, mUn, mVar, mCall, mCons, mNil, mLst, mTup, mNew, mSl, mNoPart, mPart, mJoin, mLc, mRng1, mRng2, tgM_name, tgM_tup, tgMs_nil, tgMs_cons, Option.bind_some, wp_bind, wp_ok, Src.size, wip, asL, lim_v, List.set_cons_succ, List.set_cons_zero, List.getElem?_cons_zero, List.getElem?_cons_succ, gPlus, gAdd, ex, f4, f5, f6]
  refine Wp.mono (compI_inv (src := .vals (upTo 0 cnt)) (xs := upTo 0 cnt) (fun i ys S' => S' = S5 ∧ ∃ names : List (List Nat), ys = names.map Val.str ∧ names.length = i ∧ ∀ nm ∈ names, OkN nm) (fun _ _ _ _ _ => rfl) (fun _ _ _ => rfl) (fun i x acc S6 hx hI => ?_) cnt 0 [] S5 (by omega) ⟨rfl, [], rfl, rfl, by simp⟩) fun ys S6 ⟨e5, names, e6, n1, n2⟩ => ?_
  · obtain ⟨rfl, names, rfl, n1, n2⟩ := hI
    obtain ⟨hi, hx2⟩ := upTo_at hx
    subst hx2
    refine ⟨_, rfl, ?_⟩
    have e0 : 0 ≤ (i3 + b * (i : Int)) % 26 := Int.emod_nonneg _ (by decide)
    have e1 : (i3 + b * (i : Int)) % 26 < 26 := Int.emod_lt_of_pos _ (by decide)
    obtain ⟨c, hcm, ec⟩ := ix_str (S := S6) (z := cs "abcdefghijklmnopqrstuvwxyz") (by rw [hl]; decide) e0 (by rw [hl]; exact e1)
    have c26 : ((0 : Int) < 26) = True := eq_true (by decide)
    have c5 : (b.natAbs < 2 ^ 64 ∨ (i : Int).natAbs < 2 ^ 64) = True := eq_true (.inl (by omega))
    have ct : cut z none (some (cc : Int)) = z.take cc := cut_takeN (by omega)
    have cd : cut z (some (cc : Int)) none = z.drop cc := cut_dropN (by omega)
    have lt := List.length_take_le cc z
    have ld := List.length_drop (i := cc) (l := z)
    have q3 : ((z.take cc).length ≤ 99999) = True := eq_true (by omega)
    have q4 : ((z.take cc ++ [c]).length + (z.drop cc).length ≤ 100000) = True := eq_true (by rw [List.length_append, List.length_singleton]; omega)
    simp only [List.length_cons, List.length_nil, List.map_cons, List.map_nil, Nat.zero_add, Nat.reduceAdd, Nat.reduceSub, Nat.reduceLeDiff, List.replicate, List.cons_append, List.nil_append, if_true, ite_true, and_self, true_and, sSeq, sAsg, sRet, sIf, sNx, sExp, mC, mOp, mUn, mVar, mCall, mCons, mNil, mLst, mTup, mNew, mSl, mNoPart, mPart, mJoin, mLc, mRng1, mRng2, tgM_name, tgM_tup, tgMs_nil, tgMs_cons, Option.bind_some, wp_bind, wp_ok, Src.size, wip, asL, lim_v, List.set_cons_succ, List.set_cons_zero, List.getElem?_cons_zero, List.getElem?_cons_succ, gPlus, gAdd, mYes, gSl, hz1, gTimes, gMul, c5, gMod, c26, ec, ct, cd, q3, q4]
    refine ⟨by rw [List.length_map]; omega, names ++ [z.take cc ++ [c] ++ z.drop cc], by simp, by simp [n1], fun nm hn => ?_⟩
    rcases List.mem_append.mp hn with hn | hn
    · exact n2 nm hn
    · rw [List.mem_singleton.mp hn]
      refine ⟨by simp, ?_, fun c' hc' => ?_⟩
      · have : (z.take cc).length + (z.drop cc).length = z.length := by rw [← List.length_append, List.take_append_drop]
        simp at this ⊢
        omega
      · rcases List.mem_append.mp hc' with hc' | hc'
        · rcases List.mem_append.mp hc' with hc' | hc'
          · exact hzl c' (List.mem_of_mem_take hc')
          · rw [List.mem_singleton.mp hc']; exact hcm
        · exact hzl c' (List.mem_of_mem_drop hc')
  · subst e5 e6
    rw [f6] at n1
    have K := (kp_pick k1).trans (k2.trans (k3.trans (k4.trans (kp_pick k5))))
    exact ⟨(d5.app).le (by omega), K.app2, S6.length, names, rfl, K.le, app_new, n1, n2⟩
/-! ### parts, flat -/
def NewE (S : Sto) (ps : List Pat) (v : Val) (S' : Sto) : Prop := ∃ q, v = .loc q ∧ S.length ≤ q ∧ S'[q]? = some (.lst (encs ps)) ∧ Ext S S'
theorem newE_trm {g : List Val → M Val} {xs : List Val} {S : Sto} {ps : List Pat} (h : Wp (g xs S) (NewE S ps)) : Wp (trm g xs S) (NewE S ps) :=
  wp_trm h fun v S1 ⟨q, e, l, _⟩ b _ => by
    subst e
    have : q < S.length := of_decide_eq_true b
    omega
theorem flat_ok {q0 : Nat} {ps : List Pat} (b : Bool) (h0 : S[q0]? = some (.lst (encs ps))) (hB : szs ps ≤ 9000) : Wp (Fn (n + 1) 34 [.loc q0, .str (wd b)] S) (NewE S (spr b ps)) := by
  rw [fn__law_flat]
  refine newE_trm ?_
  refine wp_runF rfl ?_
  unfold b__law_flat
  refine wp_asgL (Wp.mono (Q := fun xs S1 => xs = [] ∧ S1 = S) (by simp only [List.length_cons, List.length_nil, List.map_cons, List.map_nil, Nat.zero_add, Nat.reduceAdd, Nat.reduceSub, Nat.reduceLeDiff, List.replicate, List.cons_append, List.nil_append, if_true, ite_true, and_self, true_and, sSeq, sAsg, sRet, sIf, sNx, sExp, mC, mOp, mUn, mVar, mCall, mCons, mNil, mLst, mTup, mNew, mSl, mNoPart, mPart, mJoin, mLc, mRng1, mRng2, tgM_name, tgM_tup, tgMs_nil, tgMs_cons, Option.bind_some, wp_bind, wp_ok, Src.size, wip, asL, lim_v, List.set_cons_succ, List.set_cons_zero, List.getElem?_cons_zero, List.getElem?_cons_succ, gPlus, gAdd]) fun xs S1 ⟨e1, e2⟩ => ?_)
  subst e1 e2
  show Wp (sSeq _ _ [some (.loc q0), some (.str (wd b)), some (.loc S1.length), none] (S1 ++ [.lst []])) _
  have hps := szs_len ps
  have h0' : (S1 ++ [Ob.lst []])[q0]? = some (.lst (encs ps)) := app_get h0
  refine wp_seqN (Wp.mono (Q := fun r S' => ∃ q e3, r = (.nx, [some (.loc q0), some (.str (wd b)), some (.loc q), e3]) ∧ S1.length ≤ q ∧ S'[q]? = some (.lst (encs (spr b ps))) ∧ Ext S1 S') ?_ fun r S' ⟨q, e3, e1, h1, h2, hE⟩ => ⟨_, e1, ?_⟩)
  · simp only [List.length_cons, List.length_nil, List.map_cons, List.map_nil, Nat.zero_add, Nat.reduceAdd, Nat.reduceSub, Nat.reduceLeDiff, List.replicate, List.cons_append, List.nil_append, if_true, ite_true, and_self, true_and, sSeq, sAsg, sRet, sIf, sNx, sExp, mC, mOp, mUn, mVar, mCall, mCons, mNil, mLst, mTup, mNew, mSl, mNoPart, mPart, mJoin, mLc, mRng1, mRng2, tgM_name, tgM_tup, tgMs_nil, tgMs_cons, Option.bind_some, wp_bind, wp_ok, Src.size, wip, asL, lim_v, List.set_cons_succ, List.set_cons_zero, List.getElem?_cons_zero, List.getElem?_cons_succ, gPlus, gAdd, sFor, mSrc, srcOf, h0']
    refine Wp.mono (forI_inv (src := .live q0 (encs ps).length) (xs := encs ps) (fun i env S' => ∃ q e3, env = [some (.loc q0), some (.str (wd b)), some (.loc q), e3] ∧ S1.length ≤ q ∧ S'[q]? = some (.lst (encs (spr b (ps.take i)))) ∧ Ext S1 S')
      (fun r S' => ∃ q e3, r = (.nx, [some (.loc q0), some (.str (wd b)), some (.loc q), e3]) ∧ S1.length ≤ q ∧ S'[q]? = some (.lst (encs (spr b ps))) ∧ Ext S1 S') (fun i env S' hI _ => ?_) (fun env S' hI => ?_) (fun i x env S2 hx hI => ?_) (encs ps).length 0 _ _ (by omega) ⟨S1.length, none, rfl, Nat.le_refl _, by rw [app_new]; rfl, Ext.app⟩) fun r S' h => h
    · obtain ⟨q, e3, _, _, _, hE⟩ := hI
      exact item_live (hE.get h0)
    · obtain ⟨q, e3, rfl, h1, h2, hE⟩ := hI
      rw [encs_len, List.take_length] at h2
      exact ⟨fin_live (hE.get h0), q, e3, rfl, h1, h2, hE⟩
    · obtain ⟨q, e3, rfl, h1, h2, hE⟩ := hI
      have hi := (List.getElem?_eq_some_iff.mp hx).1
      rw [encs_len] at hi
      rw [encs_map, List.getElem?_map, List.getElem?_eq_getElem hi] at hx
      have hx := Option.some.inj hx
      generalize hp : ps[i] = p at hx
      subst hx
      refine ⟨_, rfl, ?_⟩
      have e3 : spr b (ps.take (i + 1)) = spr b (ps.take i) ++ spr1 b p := by
        rw [← List.take_append_getElem hi, spr_app, hp, spr_cons, spr_nil, List.append_nil]
      have e4 : (spr b (ps.take i)).length + (spr1 b p).length ≤ 9000 := by
        have h1 := congrArg List.length (congrArg (spr b) (List.take_append_drop (i + 1) ps))
        rw [spr_app, List.length_append, e3, List.length_append] at h1
        have := szs_len (spr b ps)
        have := szs_spr b ps
        omega
      have l1 : ((encs (spr b (ps.take i))).length < 100000) = True := eq_true (by rw [encs_len]; omega)
      -- a part that stays
      have one : spr1 b p = [p] → Wp (sApp (mVar 2) (mVar 3) [some (.loc q0), some (.str (wd b)), some (.loc q), some (enc p)] S2) fun z S' => ∃ e, z = (.nx, e) ∧ ∃ q e3, e = [some (.loc q0), some (.str (wd b)), some (.loc q), e3] ∧ S1.length ≤ q ∧ S'[q]? = some (.lst (encs (spr b (ps.take (i + 1))))) ∧ Ext S1 S' := fun hp1 => by
        simp only [List.length_cons, List.length_nil, List.map_cons, List.map_nil, Nat.zero_add, Nat.reduceAdd, Nat.reduceSub, Nat.reduceLeDiff, List.replicate, List.cons_append, List.nil_append, if_true, ite_true, and_self, true_and, sSeq, sAsg, sRet, sIf, sNx, sExp, mC, mOp, mUn, mVar, mCall, mCons, mNil, mLst, mTup, mNew, mSl, mNoPart, mPart, mJoin, mLc, mRng1, mRng2, tgM_name, tgM_tup, tgMs_nil, tgMs_cons, Option.bind_some, wp_bind, wp_ok, Src.size, wip, asL, lim_v, List.set_cons_succ, List.set_cons_zero, List.getElem?_cons_zero, List.getElem?_cons_succ, gPlus, gAdd, sApp, h2, l1]
        refine ⟨_, rfl, q, _, rfl, h1, ?_, hE.set h1⟩
        rw [set_get_self h2, e3, hp1, encs_app]; rfl
      have many : ∀ qs : List Pat, spr1 b p = qs → enc p = .tup [.str (wd b), .tup (encs qs)] → Wp (sAsg (.name 2) (mNew (mCat asE asL (mVar 2) (mUnL gLst (mOp gIx (mVar 3) (mC (.int 1)))))) [some (.loc q0), some (.str (wd b)), some (.loc q), some (enc p)] S2) fun z S' => ∃ e, z = (.nx, e) ∧ ∃ q e3, e = [some (.loc q0), some (.str (wd b)), some (.loc q), e3] ∧ S1.length ≤ q ∧ S'[q]? = some (.lst (encs (spr b (ps.take (i + 1))))) ∧ Ext S1 S' := fun qs hp1 ep => by
        have l2 : ((encs (spr b (ps.take i))).length + (encs qs).length ≤ 100000) = True := eq_true (by rw [hp1] at e4; rw [encs_len, encs_len]; omega)
        simp only [List.length_cons, List.length_nil, List.map_cons, List.map_nil, Nat.zero_add, Nat.reduceAdd, Nat.reduceSub, Nat.reduceLeDiff, List.replicate, List.cons_append, List.nil_append, if_true, ite_true, and_self, true_and, sSeq, sAsg, sRet, sIf, sNx, sExp, mC, mOp, mUn, mVar, mCall, mCons, mNil, mLst, mTup, mNew, mSl, mNoPart, mPart, mJoin, mLc, mRng1, mRng2, tgM_name, tgM_tup, tgMs_nil, tgMs_cons, Option.bind_some, wp_bind, wp_ok, Src.size, wip, asL, lim_v, List.set_cons_succ, List.set_cons_zero, List.getElem?_cons_zero, List.getElem?_cons_succ, gPlus, gAdd, mEq, datE_bl, datE_int, datE_str, datE_non, dp_ii, dp_bb, dp_ss, dp_ni, dp_in, ev_ii, ev_bb, ev_ss, ev_ni, ev_in, Bool.false_eq_true, if_false, reduceIte, reduceCtorEq, decide_true, decide_false, eq_self, mTst, mOr, mAnd, mNot, mTru, mBl, mChn, mIf, mIsi, mAndV, mOrV, mNotV, tyOf, truth, gCmp, gIsB, gIsN, gNeg, gSub, gLen, gSl, gIx, gRevA, gRev, Bool.not_true, Bool.not_false, ep, at1_, mCat, mUnL, gLst, asE, h2, l2]
        refine ⟨_, rfl, S2.length, _, rfl, hE.le, ?_, hE.trans Ext.app⟩
        rw [app_new, e3, hp1, encs_app]
      have fin : ∀ {a : SM} {env : Ev}, (Wp (a env S2) fun z S' => ∃ e, z = (.nx, e) ∧ ∃ q e3, e = [some (.loc q0), some (.str (wd b)), some (.loc q), e3] ∧ S1.length ≤ q ∧ S'[q]? = some (.lst (encs (spr b (ps.take (i + 1))))) ∧ Ext S1 S') → Wp (a env S2) fun q S' => match q with
          | (.nx, e) => ∃ q e3, e = [some (.loc q0), some (.str (wd b)), some (.loc q), e3] ∧ S1.length ≤ q ∧ S'[q]? = some (.lst (encs (spr b (ps.take (i + 1))))) ∧ Ext S1 S'
          | (.ct, e) => ∃ q e3, e = [some (.loc q0), some (.str (wd b)), some (.loc q), e3] ∧ S1.length ≤ q ∧ S'[q]? = some (.lst (encs (spr b (ps.take (i + 1))))) ∧ Ext S1 S'
          | (.bk, e) => ∃ q e3, ((.nx, e) : Fl × Ev) = (.nx, [some (.loc q0), some (.str (wd b)), some (.loc q), e3]) ∧ S1.length ≤ q ∧ S'[q]? = some (.lst (encs (spr b ps))) ∧ Ext S1 S'
          | (.rt x, e) => ∃ q e3, ((.rt x, e) : Fl × Ev) = (.nx, [some (.loc q0), some (.str (wd b)), some (.loc q), e3]) ∧ S1.length ≤ q ∧ S'[q]? = some (.lst (encs (spr b ps))) ∧ Ext S1 S' := fun {a env} h => Wp.mono h fun z S' ⟨e, e1, h⟩ => by subst e1; exact h
      refine fin ?_
      cases b with
      | true =>
        cases p with
        | row qs => exact wp_ifT (by simp only [wd, List.length_cons, List.length_nil, List.map_cons, List.map_nil, Nat.zero_add, Nat.reduceAdd, Nat.reduceSub, Nat.reduceLeDiff, List.replicate, List.cons_append, List.nil_append, if_true, ite_true, and_self, true_and, sSeq, sAsg, sRet, sIf, sNx, sExp, mC, mOp, mUn, mVar, mCall, mCons, mNil, mLst, mTup, mNew, mSl, mNoPart, mPart, mJoin, mLc, mRng1, mRng2, tgM_name, tgM_tup, tgMs_nil, tgMs_cons, Option.bind_some, wp_bind, wp_ok, Src.size, wip, asL, lim_v, List.set_cons_succ, List.set_cons_zero, List.getElem?_cons_zero, List.getElem?_cons_succ, gPlus, gAdd, mEq, datE_bl, datE_int, datE_str, datE_non, dp_ii, dp_bb, dp_ss, dp_ni, dp_in, ev_ii, ev_bb, ev_ss, ev_ni, ev_in, Bool.false_eq_true, if_false, reduceIte, reduceCtorEq, decide_true, decide_false, eq_self, mTst, mOr, mAnd, mNot, mTru, mBl, mChn, mIf, mIsi, mAndV, mOrV, mNotV, tyOf, truth, gCmp, gIsB, gIsN, gNeg, gSub, gLen, gSl, gIx, gRevA, gRev, Bool.not_true, Bool.not_false, ne_sign_row, ne_sign_any, ne_sign_some, ne_sign_mark, ne_row_sign, ne_row_any, ne_row_some, ne_row_mark, ne_any_sign, ne_any_row, ne_any_some, ne_any_mark, ne_some_sign, ne_some_row, ne_some_any, ne_some_mark, ne_mark_sign, ne_mark_row, ne_mark_any, ne_mark_some, enc_row, at0_]) (many qs rfl (enc_row qs))
        | sign z => exact wp_ifF (by simp only [wd, List.length_cons, List.length_nil, List.map_cons, List.map_nil, Nat.zero_add, Nat.reduceAdd, Nat.reduceSub, Nat.reduceLeDiff, List.replicate, List.cons_append, List.nil_append, if_true, ite_true, and_self, true_and, sSeq, sAsg, sRet, sIf, sNx, sExp, mC, mOp, mUn, mVar, mCall, mCons, mNil, mLst, mTup, mNew, mSl, mNoPart, mPart, mJoin, mLc, mRng1, mRng2, tgM_name, tgM_tup, tgMs_nil, tgMs_cons, Option.bind_some, wp_bind, wp_ok, Src.size, wip, asL, lim_v, List.set_cons_succ, List.set_cons_zero, List.getElem?_cons_zero, List.getElem?_cons_succ, gPlus, gAdd, mEq, datE_bl, datE_int, datE_str, datE_non, dp_ii, dp_bb, dp_ss, dp_ni, dp_in, ev_ii, ev_bb, ev_ss, ev_ni, ev_in, Bool.false_eq_true, if_false, reduceIte, reduceCtorEq, decide_true, decide_false, eq_self, mTst, mOr, mAnd, mNot, mTru, mBl, mChn, mIf, mIsi, mAndV, mOrV, mNotV, tyOf, truth, gCmp, gIsB, gIsN, gNeg, gSub, gLen, gSl, gIx, gRevA, gRev, Bool.not_true, Bool.not_false, ne_sign_row, ne_sign_any, ne_sign_some, ne_sign_mark, ne_row_sign, ne_row_any, ne_row_some, ne_row_mark, ne_any_sign, ne_any_row, ne_any_some, ne_any_mark, ne_some_sign, ne_some_row, ne_some_any, ne_some_mark, ne_mark_sign, ne_mark_row, ne_mark_any, ne_mark_some, enc_sign, at0_]) (one rfl)
        | any qs => exact wp_ifF (by simp only [wd, List.length_cons, List.length_nil, List.map_cons, List.map_nil, Nat.zero_add, Nat.reduceAdd, Nat.reduceSub, Nat.reduceLeDiff, List.replicate, List.cons_append, List.nil_append, if_true, ite_true, and_self, true_and, sSeq, sAsg, sRet, sIf, sNx, sExp, mC, mOp, mUn, mVar, mCall, mCons, mNil, mLst, mTup, mNew, mSl, mNoPart, mPart, mJoin, mLc, mRng1, mRng2, tgM_name, tgM_tup, tgMs_nil, tgMs_cons, Option.bind_some, wp_bind, wp_ok, Src.size, wip, asL, lim_v, List.set_cons_succ, List.set_cons_zero, List.getElem?_cons_zero, List.getElem?_cons_succ, gPlus, gAdd, mEq, datE_bl, datE_int, datE_str, datE_non, dp_ii, dp_bb, dp_ss, dp_ni, dp_in, ev_ii, ev_bb, ev_ss, ev_ni, ev_in, Bool.false_eq_true, if_false, reduceIte, reduceCtorEq, decide_true, decide_false, eq_self, mTst, mOr, mAnd, mNot, mTru, mBl, mChn, mIf, mIsi, mAndV, mOrV, mNotV, tyOf, truth, gCmp, gIsB, gIsN, gNeg, gSub, gLen, gSl, gIx, gRevA, gRev, Bool.not_true, Bool.not_false, ne_sign_row, ne_sign_any, ne_sign_some, ne_sign_mark, ne_row_sign, ne_row_any, ne_row_some, ne_row_mark, ne_any_sign, ne_any_row, ne_any_some, ne_any_mark, ne_some_sign, ne_some_row, ne_some_any, ne_some_mark, ne_mark_sign, ne_mark_row, ne_mark_any, ne_mark_some, enc_any, at0_]) (one rfl)
        | some lo hi q => exact wp_ifF (by simp only [wd, List.length_cons, List.length_nil, List.map_cons, List.map_nil, Nat.zero_add, Nat.reduceAdd, Nat.reduceSub, Nat.reduceLeDiff, List.replicate, List.cons_append, List.nil_append, if_true, ite_true, and_self, true_and, sSeq, sAsg, sRet, sIf, sNx, sExp, mC, mOp, mUn, mVar, mCall, mCons, mNil, mLst, mTup, mNew, mSl, mNoPart, mPart, mJoin, mLc, mRng1, mRng2, tgM_name, tgM_tup, tgMs_nil, tgMs_cons, Option.bind_some, wp_bind, wp_ok, Src.size, wip, asL, lim_v, List.set_cons_succ, List.set_cons_zero, List.getElem?_cons_zero, List.getElem?_cons_succ, gPlus, gAdd, mEq, datE_bl, datE_int, datE_str, datE_non, dp_ii, dp_bb, dp_ss, dp_ni, dp_in, ev_ii, ev_bb, ev_ss, ev_ni, ev_in, Bool.false_eq_true, if_false, reduceIte, reduceCtorEq, decide_true, decide_false, eq_self, mTst, mOr, mAnd, mNot, mTru, mBl, mChn, mIf, mIsi, mAndV, mOrV, mNotV, tyOf, truth, gCmp, gIsB, gIsN, gNeg, gSub, gLen, gSl, gIx, gRevA, gRev, Bool.not_true, Bool.not_false, ne_sign_row, ne_sign_any, ne_sign_some, ne_sign_mark, ne_row_sign, ne_row_any, ne_row_some, ne_row_mark, ne_any_sign, ne_any_row, ne_any_some, ne_any_mark, ne_some_sign, ne_some_row, ne_some_any, ne_some_mark, ne_mark_sign, ne_mark_row, ne_mark_any, ne_mark_some, enc_some, at0_]) (one rfl)
        | mark nm q => exact wp_ifF (by simp only [wd, List.length_cons, List.length_nil, List.map_cons, List.map_nil, Nat.zero_add, Nat.reduceAdd, Nat.reduceSub, Nat.reduceLeDiff, List.replicate, List.cons_append, List.nil_append, if_true, ite_true, and_self, true_and, sSeq, sAsg, sRet, sIf, sNx, sExp, mC, mOp, mUn, mVar, mCall, mCons, mNil, mLst, mTup, mNew, mSl, mNoPart, mPart, mJoin, mLc, mRng1, mRng2, tgM_name, tgM_tup, tgMs_nil, tgMs_cons, Option.bind_some, wp_bind, wp_ok, Src.size, wip, asL, lim_v, List.set_cons_succ, List.set_cons_zero, List.getElem?_cons_zero, List.getElem?_cons_succ, gPlus, gAdd, mEq, datE_bl, datE_int, datE_str, datE_non, dp_ii, dp_bb, dp_ss, dp_ni, dp_in, ev_ii, ev_bb, ev_ss, ev_ni, ev_in, Bool.false_eq_true, if_false, reduceIte, reduceCtorEq, decide_true, decide_false, eq_self, mTst, mOr, mAnd, mNot, mTru, mBl, mChn, mIf, mIsi, mAndV, mOrV, mNotV, tyOf, truth, gCmp, gIsB, gIsN, gNeg, gSub, gLen, gSl, gIx, gRevA, gRev, Bool.not_true, Bool.not_false, ne_sign_row, ne_sign_any, ne_sign_some, ne_sign_mark, ne_row_sign, ne_row_any, ne_row_some, ne_row_mark, ne_any_sign, ne_any_row, ne_any_some, ne_any_mark, ne_some_sign, ne_some_row, ne_some_any, ne_some_mark, ne_mark_sign, ne_mark_row, ne_mark_any, ne_mark_some, enc_mark, at0_]) (one rfl)
      | false =>
        cases p with
        | any qs => exact wp_ifT (by simp only [wd, List.length_cons, List.length_nil, List.map_cons, List.map_nil, Nat.zero_add, Nat.reduceAdd, Nat.reduceSub, Nat.reduceLeDiff, List.replicate, List.cons_append, List.nil_append, if_true, ite_true, and_self, true_and, sSeq, sAsg, sRet, sIf, sNx, sExp, mC, mOp, mUn, mVar, mCall, mCons, mNil, mLst, mTup, mNew, mSl, mNoPart, mPart, mJoin, mLc, mRng1, mRng2, tgM_name, tgM_tup, tgMs_nil, tgMs_cons, Option.bind_some, wp_bind, wp_ok, Src.size, wip, asL, lim_v, List.set_cons_succ, List.set_cons_zero, List.getElem?_cons_zero, List.getElem?_cons_succ, gPlus, gAdd, mEq, datE_bl, datE_int, datE_str, datE_non, dp_ii, dp_bb, dp_ss, dp_ni, dp_in, ev_ii, ev_bb, ev_ss, ev_ni, ev_in, Bool.false_eq_true, if_false, reduceIte, reduceCtorEq, decide_true, decide_false, eq_self, mTst, mOr, mAnd, mNot, mTru, mBl, mChn, mIf, mIsi, mAndV, mOrV, mNotV, tyOf, truth, gCmp, gIsB, gIsN, gNeg, gSub, gLen, gSl, gIx, gRevA, gRev, Bool.not_true, Bool.not_false, ne_sign_row, ne_sign_any, ne_sign_some, ne_sign_mark, ne_row_sign, ne_row_any, ne_row_some, ne_row_mark, ne_any_sign, ne_any_row, ne_any_some, ne_any_mark, ne_some_sign, ne_some_row, ne_some_any, ne_some_mark, ne_mark_sign, ne_mark_row, ne_mark_any, ne_mark_some, enc_any, at0_, Bool.false_eq_true, if_false]) (many qs rfl (enc_any qs))
        | sign z => exact wp_ifF (by simp only [wd, List.length_cons, List.length_nil, List.map_cons, List.map_nil, Nat.zero_add, Nat.reduceAdd, Nat.reduceSub, Nat.reduceLeDiff, List.replicate, List.cons_append, List.nil_append, if_true, ite_true, and_self, true_and, sSeq, sAsg, sRet, sIf, sNx, sExp, mC, mOp, mUn, mVar, mCall, mCons, mNil, mLst, mTup, mNew, mSl, mNoPart, mPart, mJoin, mLc, mRng1, mRng2, tgM_name, tgM_tup, tgMs_nil, tgMs_cons, Option.bind_some, wp_bind, wp_ok, Src.size, wip, asL, lim_v, List.set_cons_succ, List.set_cons_zero, List.getElem?_cons_zero, List.getElem?_cons_succ, gPlus, gAdd, mEq, datE_bl, datE_int, datE_str, datE_non, dp_ii, dp_bb, dp_ss, dp_ni, dp_in, ev_ii, ev_bb, ev_ss, ev_ni, ev_in, Bool.false_eq_true, if_false, reduceIte, reduceCtorEq, decide_true, decide_false, eq_self, mTst, mOr, mAnd, mNot, mTru, mBl, mChn, mIf, mIsi, mAndV, mOrV, mNotV, tyOf, truth, gCmp, gIsB, gIsN, gNeg, gSub, gLen, gSl, gIx, gRevA, gRev, Bool.not_true, Bool.not_false, ne_sign_row, ne_sign_any, ne_sign_some, ne_sign_mark, ne_row_sign, ne_row_any, ne_row_some, ne_row_mark, ne_any_sign, ne_any_row, ne_any_some, ne_any_mark, ne_some_sign, ne_some_row, ne_some_any, ne_some_mark, ne_mark_sign, ne_mark_row, ne_mark_any, ne_mark_some, enc_sign, at0_, Bool.false_eq_true, if_false]) (one rfl)
        | row qs => exact wp_ifF (by simp only [wd, List.length_cons, List.length_nil, List.map_cons, List.map_nil, Nat.zero_add, Nat.reduceAdd, Nat.reduceSub, Nat.reduceLeDiff, List.replicate, List.cons_append, List.nil_append, if_true, ite_true, and_self, true_and, sSeq, sAsg, sRet, sIf, sNx, sExp, mC, mOp, mUn, mVar, mCall, mCons, mNil, mLst, mTup, mNew, mSl, mNoPart, mPart, mJoin, mLc, mRng1, mRng2, tgM_name, tgM_tup, tgMs_nil, tgMs_cons, Option.bind_some, wp_bind, wp_ok, Src.size, wip, asL, lim_v, List.set_cons_succ, List.set_cons_zero, List.getElem?_cons_zero, List.getElem?_cons_succ, gPlus, gAdd, mEq, datE_bl, datE_int, datE_str, datE_non, dp_ii, dp_bb, dp_ss, dp_ni, dp_in, ev_ii, ev_bb, ev_ss, ev_ni, ev_in, Bool.false_eq_true, if_false, reduceIte, reduceCtorEq, decide_true, decide_false, eq_self, mTst, mOr, mAnd, mNot, mTru, mBl, mChn, mIf, mIsi, mAndV, mOrV, mNotV, tyOf, truth, gCmp, gIsB, gIsN, gNeg, gSub, gLen, gSl, gIx, gRevA, gRev, Bool.not_true, Bool.not_false, ne_sign_row, ne_sign_any, ne_sign_some, ne_sign_mark, ne_row_sign, ne_row_any, ne_row_some, ne_row_mark, ne_any_sign, ne_any_row, ne_any_some, ne_any_mark, ne_some_sign, ne_some_row, ne_some_any, ne_some_mark, ne_mark_sign, ne_mark_row, ne_mark_any, ne_mark_some, enc_row, at0_, Bool.false_eq_true, if_false]) (one rfl)
        | some lo hi q => exact wp_ifF (by simp only [wd, List.length_cons, List.length_nil, List.map_cons, List.map_nil, Nat.zero_add, Nat.reduceAdd, Nat.reduceSub, Nat.reduceLeDiff, List.replicate, List.cons_append, List.nil_append, if_true, ite_true, and_self, true_and, sSeq, sAsg, sRet, sIf, sNx, sExp, mC, mOp, mUn, mVar, mCall, mCons, mNil, mLst, mTup, mNew, mSl, mNoPart, mPart, mJoin, mLc, mRng1, mRng2, tgM_name, tgM_tup, tgMs_nil, tgMs_cons, Option.bind_some, wp_bind, wp_ok, Src.size, wip, asL, lim_v, List.set_cons_succ, List.set_cons_zero, List.getElem?_cons_zero, List.getElem?_cons_succ, gPlus, gAdd, mEq, datE_bl, datE_int, datE_str, datE_non, dp_ii, dp_bb, dp_ss, dp_ni, dp_in, ev_ii, ev_bb, ev_ss, ev_ni, ev_in, Bool.false_eq_true, if_false, reduceIte, reduceCtorEq, decide_true, decide_false, eq_self, mTst, mOr, mAnd, mNot, mTru, mBl, mChn, mIf, mIsi, mAndV, mOrV, mNotV, tyOf, truth, gCmp, gIsB, gIsN, gNeg, gSub, gLen, gSl, gIx, gRevA, gRev, Bool.not_true, Bool.not_false, ne_sign_row, ne_sign_any, ne_sign_some, ne_sign_mark, ne_row_sign, ne_row_any, ne_row_some, ne_row_mark, ne_any_sign, ne_any_row, ne_any_some, ne_any_mark, ne_some_sign, ne_some_row, ne_some_any, ne_some_mark, ne_mark_sign, ne_mark_row, ne_mark_any, ne_mark_some, enc_some, at0_, Bool.false_eq_true, if_false]) (one rfl)
        | mark nm q => exact wp_ifF (by simp only [wd, List.length_cons, List.length_nil, List.map_cons, List.map_nil, Nat.zero_add, Nat.reduceAdd, Nat.reduceSub, Nat.reduceLeDiff, List.replicate, List.cons_append, List.nil_append, if_true, ite_true, and_self, true_and, sSeq, sAsg, sRet, sIf, sNx, sExp, mC, mOp, mUn, mVar, mCall, mCons, mNil, mLst, mTup, mNew, mSl, mNoPart, mPart, mJoin, mLc, mRng1, mRng2, tgM_name, tgM_tup, tgMs_nil, tgMs_cons, Option.bind_some, wp_bind, wp_ok, Src.size, wip, asL, lim_v, List.set_cons_succ, List.set_cons_zero, List.getElem?_cons_zero, List.getElem?_cons_succ, gPlus, gAdd, mEq, datE_bl, datE_int, datE_str, datE_non, dp_ii, dp_bb, dp_ss, dp_ni, dp_in, ev_ii, ev_bb, ev_ss, ev_ni, ev_in, Bool.false_eq_true, if_false, reduceIte, reduceCtorEq, decide_true, decide_false, eq_self, mTst, mOr, mAnd, mNot, mTru, mBl, mChn, mIf, mIsi, mAndV, mOrV, mNotV, tyOf, truth, gCmp, gIsB, gIsN, gNeg, gSub, gLen, gSl, gIx, gRevA, gRev, Bool.not_true, Bool.not_false, ne_sign_row, ne_sign_any, ne_sign_some, ne_sign_mark, ne_row_sign, ne_row_any, ne_row_some, ne_row_mark, ne_any_sign, ne_any_row, ne_any_some, ne_any_mark, ne_some_sign, ne_some_row, ne_some_any, ne_some_mark, ne_mark_sign, ne_mark_row, ne_mark_any, ne_mark_some, enc_mark, at0_, Bool.false_eq_true, if_false]) (one rfl)
  · refine wp_ret (Wp.mono (Q := fun v S4 => v = .loc q ∧ S4 = S') (by simp only [List.length_cons, List.length_nil, List.map_cons, List.map_nil, Nat.zero_add, Nat.reduceAdd, Nat.reduceSub, Nat.reduceLeDiff, List.replicate, List.cons_append, List.nil_append, if_true, ite_true, and_self, true_and, sSeq, sAsg, sRet, sIf, sNx, sExp, mC, mOp, mUn, mVar, mCall, mCons, mNil, mLst, mTup, mNew, mSl, mNoPart, mPart, mJoin, mLc, mRng1, mRng2, tgM_name, tgM_tup, tgMs_nil, tgMs_cons, Option.bind_some, wp_bind, wp_ok, Src.size, wip, asL, lim_v, List.set_cons_succ, List.set_cons_zero, List.getElem?_cons_zero, List.getElem?_cons_succ, gPlus, gAdd]) fun v S4 ⟨e1, e2⟩ => ?_)
    subst e1 e2
    exact .inl ⟨_, _, rfl, q, rfl, h1, h2, hE⟩
end
end Mx.K07

set_option linter.all false
set_option maxRecDepth 100000
set_option maxHeartbeats 4000000
namespace Mx.K07
open Mx L2 PySem
/-! ### patterns, as they must be; the texts that are written -/
abbrev sg : List Nat := cs " abcdefghijklmnopqrstuvwxyz"
def isK : Bool → Pat → Bool
  | true, .row _ => true
  | false, .any _ => true
  | _, _ => false
mutual
def NF : Pat → Prop
  | .sign z => z ≠ [] ∧ sg.filter (fun c => decide (c ∈ z)) = z
  | .row ps => NFs true ps ∧ ps.length ≠ 1
  | .any ps => NFs false ps ∧ 2 ≤ ps.length
  | .some lo hi p => ((lo = 0 ∧ hi = true) ∨ (lo = 0 ∧ hi = false) ∨ (lo = 1 ∧ hi = false)) ∧ NF p
  | .mark nm p => OkN nm ∧ NF p
def NFs : Bool → List Pat → Prop
  | _, [] => True
  | b, p :: ps => (NF p ∧ isK b p = false) ∧ NFs b ps
end
theorem NFs_iff {b : Bool} : ∀ {ps : List Pat}, NFs b ps ↔ ∀ p ∈ ps, NF p ∧ isK b p = false
  | [] => by simp [NFs]
  | p :: ps => by rw [NFs, NFs_iff (ps := ps)]; simp
theorem spr1_k {b : Bool} {p : Pat} (h : isK b p = false) : spr1 b p = [p] := by cases p <;> cases b <;> simp [isK, spr1] at h ⊢
theorem spr_k {b : Bool} : ∀ {ps : List Pat}, (∀ p ∈ ps, isK b p = false) → spr b ps = ps
  | [], _ => rfl
  | p :: ps, h => by rw [spr_cons, spr1_k (h p List.mem_cons_self), spr_k fun q hq => h q (List.mem_cons_of_mem _ hq)]; rfl
/-! what is read is as it must be -/
theorem nf_spr {b : Bool} {fs : List Pat} (h : ∀ f ∈ fs, NF f) : ∀ p ∈ spr b fs, NF p ∧ isK b p = false := fun p hp => by
  obtain ⟨f, hf, hpf⟩ := List.mem_flatMap.mp hp
  have hn := h f hf
  cases f with
  | row qs =>
    cases b with
    | true =>
      rw [NF, NFs_iff] at hn
      exact hn.1 p (by simpa [spr1] using hpf)
    | false =>
      have : p = .row qs := by simpa [spr1] using hpf
      subst this
      exact ⟨hn, rfl⟩
  | any qs =>
    cases b with
    | false =>
      rw [NF, NFs_iff] at hn
      exact hn.1 p (by simpa [spr1] using hpf)
    | true =>
      have : p = .any qs := by simpa [spr1] using hpf
      subst this
      exact ⟨hn, rfl⟩
  | sign z =>
    have : p = .sign z := by simpa [spr1] using hpf
    subst this
    exact ⟨hn, by cases b <;> rfl⟩
  | some lo hi q =>
    have : p = .some lo hi q := by simpa [spr1] using hpf
    subst this
    exact ⟨hn, by cases b <;> rfl⟩
  | mark nm q =>
    have : p = .mark nm q := by simpa [spr1] using hpf
    subst this
    exact ⟨hn, by cases b <;> rfl⟩
theorem nf_filter {P : Nat → Bool} : sg.filter (fun c => decide (c ∈ sg.filter P)) = sg.filter P := by
  refine List.filter_congr fun c hc => ?_
  rw [Bool.eq_iff_iff, decide_eq_true_eq, List.mem_filter]
  exact ⟨fun h => h.2, fun h => ⟨hc, h⟩⟩
theorem nf_one : ∀ c ∈ sg, sg.filter (fun d => decide (d ∈ [c])) = [c] := by decide +kernel
theorem nf_all : sg.filter (fun d => decide (d ∈ sg)) = sg := by decide +kernel
/-! the texts -/
def sgT (z : List Nat) : List Nat := if z = sg then [46] else if z.length = 1 then z else 91 :: (z ++ [93])
def inS : Pat → Bool
  | .row _ => true
  | .any _ => true
  | .some _ _ _ => true
  | _ => false
def brk (b : Bool) (t : List Nat) : List Nat := if b then 40 :: (t ++ [41]) else t
def cch (lo : Nat) (hi : Bool) : Nat := if hi then 63 else if lo = 0 then 42 else 43
mutual
def wr : Pat → List Nat
  | .sign z => sgT z
  | .row ps => wrR ps
  | .any ps => wrA ps
  | .some lo hi p => brk (inS p) (wr p) ++ [cch lo hi]
  | .mark nm p => 60 :: (nm ++ 58 :: (wr p ++ [62]))
def wrR : List Pat → List Nat
  | [] => []
  | p :: ps => brk (isK false p) (wr p) ++ wrR ps
def wrA : List Pat → List Nat
  | [] => []
  | p :: ps => wr p ++ wrB ps
def wrB : List Pat → List Nat
  | [] => []
  | p :: ps => 124 :: (wr p ++ wrB ps)
end
theorem sg_z {z : List Nat} (h : sg.filter (fun c => decide (c ∈ z)) = z) : (∀ c ∈ z, c ∈ sg) ∧ z.length ≤ 27 := by
  constructor
  · intro c hc
    rw [← h] at hc
    exact (List.mem_filter.mp hc).1
  · rw [← h]
    exact Nat.le_trans (List.length_filter_le ..) (by decide +kernel)
/-! how long the texts are; of which signs -/
theorem brk_len (b : Bool) (t : List Nat) : (brk b t).length ≤ t.length + 2 := by unfold brk; cases b <;> simp
mutual
theorem wr_len : ∀ p, NF p → (wr p).length + 3 ≤ 40 * sz p
  | .sign z, h => by
    rw [NF] at h
    obtain ⟨_, h2⟩ := sg_z h.2
    rw [wr, sz]
    unfold sgT
    split
    · simp
    · split <;> simp <;> omega
  | .mark nm p, h => by
    rw [NF] at h
    have := wr_len p h.2
    have := h.1.2.1
    rw [wr, sz]
    simp
    omega
  | .some lo hi p, h => by
    rw [NF] at h
    have := wr_len p h.2
    have := brk_len (inS p) (wr p)
    rw [wr, sz]
    simp
    omega
  | .row ps, h => by
    rw [NF] at h
    have := wrR_len ps h.1
    rw [wr, sz]
    omega
  | .any ps, h => by
    rw [NF] at h
    rw [wr, sz]
    cases ps with
    | nil => simp [wrA]; omega
    | cons p ps =>
      obtain ⟨⟨hp, _⟩, hps⟩ := (show (NF p ∧ isK false p = false) ∧ NFs false ps by have := h.1; rw [NFs] at this; exact this)
      have := wr_len p hp
      have := wrB_len ps hps
      rw [wrA, szs]
      simp
      omega
theorem wrR_len : ∀ ps, NFs true ps → (wrR ps).length ≤ 40 * szs ps
  | [], _ => by simp [wrR]
  | p :: ps, h => by
    rw [NFs] at h
    have := wr_len p h.1.1
    have := wrR_len ps h.2
    have := brk_len (isK false p) (wr p)
    rw [wrR, szs, List.length_append]
    omega
theorem wrB_len : ∀ ps, NFs false ps → (wrB ps).length ≤ 40 * szs ps
  | [], _ => by simp [wrB]
  | p :: ps, h => by
    rw [NFs] at h
    have := wr_len p h.1.1
    have := wrB_len ps h.2
    rw [wrB, szs]
    simp
    omega
end
end Mx.K07

set_option linter.all false
set_option maxRecDepth 100000
set_option maxHeartbeats 4000000
namespace Mx.K07
open Mx L2 PySem
/-! ### written -/
theorem joinL_bar : ∀ (p : Pat) (ps : List Pat), TL.joinL [124] ((p :: ps).map wr) = wrA (p :: ps)
  | p, [] => by simp [TL.joinL, wrA, wrB]
  | p, q :: ps => by
    have ih := joinL_bar q ps
    rw [wrA] at ih
    rw [List.map_cons, List.map_cons, TL.joinL, ← List.map_cons (f := wr), ih, wrA, wrB]
    simp
theorem wrR_flat : ∀ ps : List Pat, (ps.map fun p => brk (isK false p) (wr p)).flatten = wrR ps
  | [] => rfl
  | p :: ps => by rw [List.map_cons, List.flatten_cons, wrR_flat ps, wrR]
theorem sum_len : ∀ xs : List (List Nat), (xs.map List.length).sum = xs.flatten.length
  | [] => rfl
  | x :: xs => by rw [List.map_cons, List.sum_cons, sum_len xs, List.flatten_cons, List.length_append]
theorem wrA_sum : ∀ ps : List Pat, NFs false ps → ((ps.map wr).map List.length).sum ≤ 40 * szs ps
  | [], _ => by simp
  | p :: ps, h => by
    rw [NFs] at h
    have := wrA_sum ps h.2
    have := wr_len p h.1.1
    rw [List.map_cons, List.map_cons, List.sum_cons, szs]
    omega
section
variable {S : Sto} {n : Nat}
theorem sign_text_ok {z : List Nat} (h : z.length ≤ 27) : Fn (n + 1) 58 [.str z] S = .ok (.str (sgT z)) S := by
  rw [fn_sign_text]
  refine trm_of ?_
  unfold runF b_sign_text sgT
  by_cases e : z = sg
  · have q : decide (z = cs " abcdefghijklmnopqrstuvwxyz") = true := decide_eq_true e
    have c0 : cs "." = [46] := rfl
    simp only [List.length_cons, List.length_nil, List.map_cons, List.map_nil, Nat.zero_add, Nat.reduceAdd, Nat.reduceSub, Nat.reduceLeDiff, List.replicate, List.cons_append, List.nil_append, if_true, ite_true, and_self, true_and, sSeq, sAsg, sRet, sIf, sNx, sExp, mC, mOp, mUn, mVar, mCall, mCons, mNil, mLst, mTup, mNew, mSl, mNoPart, mPart, mJoin, mLc, mRng1, mRng2, tgM_name, tgM_tup, tgMs_nil, tgMs_cons, Option.bind_some, wp_bind, wp_ok, Src.size, wip, asL, lim_v, List.set_cons_succ, List.set_cons_zero, List.getElem?_cons_zero, List.getElem?_cons_succ, gPlus, gAdd, mEq, datE_bl, datE_int, datE_str, datE_non, dp_ii, dp_bb, dp_ss, dp_ni, dp_in, ev_ii, ev_bb, ev_ss, ev_ni, ev_in, Bool.false_eq_true, if_false, reduceIte, reduceCtorEq, decide_true, decide_false, eq_self, mTst, mOr, mAnd, mNot, mTru, mBl, mChn, mIf, mIsi, mAndV, mOrV, mNotV, tyOf, truth, gCmp, gIsB, gIsN, gNeg, gSub, gLen, gSl, gIx, gRevA, gRev, Bool.not_true, Bool.not_false, q, if_pos e, c0]
  have q : decide (z = cs " abcdefghijklmnopqrstuvwxyz") = false := decide_eq_false e
  have l0 : (z.length ≤ 100000) = True := eq_true (by omega)
  by_cases e1 : z.length = 1
  · have q1 : decide ((z.length : Int) = 1) = true := decide_eq_true (by omega)
    simp only [List.length_cons, List.length_nil, List.map_cons, List.map_nil, Nat.zero_add, Nat.reduceAdd, Nat.reduceSub, Nat.reduceLeDiff, List.replicate, List.cons_append, List.nil_append, if_true, ite_true, and_self, true_and, sSeq, sAsg, sRet, sIf, sNx, sExp, mC, mOp, mUn, mVar, mCall, mCons, mNil, mLst, mTup, mNew, mSl, mNoPart, mPart, mJoin, mLc, mRng1, mRng2, tgM_name, tgM_tup, tgMs_nil, tgMs_cons, Option.bind_some, wp_bind, wp_ok, Src.size, wip, asL, lim_v, List.set_cons_succ, List.set_cons_zero, List.getElem?_cons_zero, List.getElem?_cons_succ, gPlus, gAdd, mEq, datE_bl, datE_int, datE_str, datE_non, dp_ii, dp_bb, dp_ss, dp_ni, dp_in, ev_ii, ev_bb, ev_ss, ev_ni, ev_in, Bool.false_eq_true, if_false, reduceIte, reduceCtorEq, decide_true, decide_false, eq_self, mTst, mOr, mAnd, mNot, mTru, mBl, mChn, mIf, mIsi, mAndV, mOrV, mNotV, tyOf, truth, gCmp, gIsB, gIsN, gNeg, gSub, gLen, gSl, gIx, gRevA, gRev, Bool.not_true, Bool.not_false, q, if_neg e, l0, q1, if_pos e1]
  have q1 : decide ((z.length : Int) = 1) = false := decide_eq_false (by omega)
  have l1 : (z.length ≤ 99999) = True := eq_true (by omega)
  have l2 : (z.length ≤ 99998) = True := eq_true (by omega)
  have l3 : (1 + z.length ≤ 100000) = True := eq_true (by omega)
  have c1 : cs "[" = [91] := rfl
  have c2 : cs "]" = [93] := rfl
  simp only [List.length_cons, List.length_nil, List.map_cons, List.map_nil, Nat.zero_add, Nat.reduceAdd, Nat.reduceSub, Nat.reduceLeDiff, List.replicate, List.cons_append, List.nil_append, if_true, ite_true, and_self, true_and, sSeq, sAsg, sRet, sIf, sNx, sExp, mC, mOp, mUn, mVar, mCall, mCons, mNil, mLst, mTup, mNew, mSl, mNoPart, mPart, mJoin, mLc, mRng1, mRng2, tgM_name, tgM_tup, tgMs_nil, tgMs_cons, Option.bind_some, wp_bind, wp_ok, Src.size, wip, asL, lim_v, List.set_cons_succ, List.set_cons_zero, List.getElem?_cons_zero, List.getElem?_cons_succ, gPlus, gAdd, mEq, datE_bl, datE_int, datE_str, datE_non, dp_ii, dp_bb, dp_ss, dp_ni, dp_in, ev_ii, ev_bb, ev_ss, ev_ni, ev_in, Bool.false_eq_true, if_false, reduceIte, reduceCtorEq, decide_true, decide_false, eq_self, mTst, mOr, mAnd, mNot, mTru, mBl, mChn, mIf, mIsi, mAndV, mOrV, mNotV, tyOf, truth, gCmp, gIsB, gIsN, gNeg, gSub, gLen, gSl, gIx, gRevA, gRev, Bool.not_true, Bool.not_false, q, if_neg e, l0, q1, if_neg e1, c1, c2, List.length_append, l1, l2, l3]
theorem in_one {nm a : List Nat} {S : Sto} : gIn false (.str nm) (.tup [.str a]) S = .ok (decide (a = nm)) S := by
  have hd : (PyData.str ⟨nm.toArray⟩).depth ≤ 64 := by simp [PyData.depth]
  have e : gIn false (.str nm) (.tup [.str a]) S = (match datE (.str nm) S, datVs (fun m => dat S deep (.loc m)) [.str a] with
    | some d, some ds => if d.depth ≤ 64 then .ok (if false = true then !ds.any (fun y => PyData.eqv y d) else ds.any fun y => PyData.eqv y d) S else .bad
    | _, _ => .bad) := by
    cases nm with
    | nil => rfl
    | cons c t => cases t <;> rfl
  have e2 : datVs (fun m => dat S deep (.loc m)) [.str a] = some [.str ⟨a.toArray⟩] := rfl
  rw [e, datE_str, e2]
  simp only [hd, if_true, Bool.false_eq_true, if_false, List.any_cons, List.any_nil, ev_ss, Bool.or_false]
theorem in_three {nm a b c : List Nat} {S : Sto} : gIn false (.str nm) (.tup [.str a, .str b, .str c]) S = .ok (decide (a = nm) || (decide (b = nm) || decide (c = nm))) S := by
  have hd : (PyData.str ⟨nm.toArray⟩).depth ≤ 64 := by simp [PyData.depth]
  have e : gIn false (.str nm) (.tup [.str a, .str b, .str c]) S = (match datE (.str nm) S, datVs (fun m => dat S deep (.loc m)) [.str a, .str b, .str c] with
    | some d, some ds => if d.depth ≤ 64 then .ok (if false = true then !ds.any (fun y => PyData.eqv y d) else ds.any fun y => PyData.eqv y d) S else .bad
    | _, _ => .bad) := by
    cases nm with
    | nil => rfl
    | cons c t => cases t <;> rfl
  have e2 : datVs (fun m => dat S deep (.loc m)) [.str a, .str b, .str c] = some [.str ⟨a.toArray⟩, .str ⟨b.toArray⟩, .str ⟨c.toArray⟩] := rfl
  rw [e, datE_str, e2]
  simp only [hd, if_true, Bool.false_eq_true, if_false, List.any_cons, List.any_nil, ev_ss, Bool.or_false]
def wd0 : Pat → List Nat
  | .sign _ => cs "sign"
  | .row _ => cs "row"
  | .any _ => cs "any"
  | .some _ _ _ => cs "some"
  | .mark _ _ => cs "mark"
theorem ix0 (p : Pat) (S : Sto) : gIx (enc p) (.int 0) S = .ok (.str (wd0 p)) S := by
  cases p <;> simp only [enc_sign, enc_row, enc_any, enc_some, enc_mark, gIx, at0_, wd0]
theorem in_any (p : Pat) (S : Sto) : gIn false (.str (wd0 p)) (.tup [.str (cs "any")]) S = .ok (isK false p) S := by
  rw [in_one]
  cases p <;> rfl
theorem in_row (p : Pat) (S : Sto) : gIn false (.str (wd0 p)) (.tup [.str (cs "row"), .str (cs "any"), .str (cs "some")]) S = .ok (inS p) S := by
  rw [in_three]
  cases p <;> rfl
theorem within_ok {m : Nat} {p : Pat} {ws : List Val} {b : Bool} {S : Sto} (hw : ∀ S, Wx (Fn m 60 [enc p] S) S (· = .str (wr p))) (hi : ∀ S, gIn false (.str (wd0 p)) (.tup ws) S = .ok b S) (hl : (wr p).length ≤ 90000) : Wx (Fn (m + 1) 59 [enc p, .tup ws] S) S (· = .str (brk b (wr p))) := by
  rw [fn_within]
  refine wx_trm ?_
  unfold Wx
  refine wp_runF rfl ?_
  unfold b_within
  refine wp_asg (Wp.mono (Q := fun v S1 => v = .str (wr p) ∧ Ext S S1) ?_ fun v S1 ⟨e1, hE⟩ => ?_)
  · simp only [List.length_cons, List.length_nil, List.map_cons, List.map_nil, Nat.zero_add, Nat.reduceAdd, Nat.reduceSub, Nat.reduceLeDiff, List.replicate, List.cons_append, List.nil_append, if_true, ite_true, and_self, true_and, sSeq, sAsg, sRet, sIf, sNx, sExp, mC, mOp, mUn, mVar, mCall, mCons, mNil, mLst, mTup, mNew, mSl, mNoPart, mPart, mJoin, mLc, mRng1, mRng2, tgM_name, tgM_tup, tgMs_nil, tgMs_cons, Option.bind_some, wp_bind, wp_ok, Src.size, wip, asL, lim_v, List.set_cons_succ, List.set_cons_zero, List.getElem?_cons_zero, List.getElem?_cons_succ, gPlus, gAdd]
    exact hw S
  subst e1
  have lt1 : ((wr p).length ≤ 99998) = True := eq_true (by omega)
  have lt2 : (1 + (wr p).length ≤ 100000) = True := eq_true (by omega)
  refine wp_ret ?_
  cases b with
  | true =>
    simp only [List.length_cons, List.length_nil, List.map_cons, List.map_nil, Nat.zero_add, Nat.reduceAdd, Nat.reduceSub, Nat.reduceLeDiff, List.replicate, List.cons_append, List.nil_append, if_true, ite_true, and_self, true_and, sSeq, sAsg, sRet, sIf, sNx, sExp, mC, mOp, mUn, mVar, mCall, mCons, mNil, mLst, mTup, mNew, mSl, mNoPart, mPart, mJoin, mLc, mRng1, mRng2, tgM_name, tgM_tup, tgMs_nil, tgMs_cons, Option.bind_some, wp_bind, wp_ok, Src.size, wip, asL, lim_v, List.set_cons_succ, List.set_cons_zero, List.getElem?_cons_zero, List.getElem?_cons_succ, gPlus, gAdd, mIf, mTst, ix0, hi, c_par, c_close, List.length_append, lt1, lt2]
    exact .inl ⟨_, _, rfl, by unfold brk; rfl, hE⟩
  | false =>
    simp only [List.length_cons, List.length_nil, List.map_cons, List.map_nil, Nat.zero_add, Nat.reduceAdd, Nat.reduceSub, Nat.reduceLeDiff, List.replicate, List.cons_append, List.nil_append, if_true, ite_true, and_self, true_and, sSeq, sAsg, sRet, sIf, sNx, sExp, mC, mOp, mUn, mVar, mCall, mCons, mNil, mLst, mTup, mNew, mSl, mNoPart, mPart, mJoin, mLc, mRng1, mRng2, tgM_name, tgM_tup, tgMs_nil, tgMs_cons, Option.bind_some, wp_bind, wp_ok, Src.size, wip, asL, lim_v, List.set_cons_succ, List.set_cons_zero, List.getElem?_cons_zero, List.getElem?_cons_succ, gPlus, gAdd, mIf, mTst, ix0, hi, Bool.false_eq_true, if_false]
    exact .inl ⟨_, _, rfl, by unfold brk; rfl, hE⟩
theorem tgU_three {q i j k : Nat} {x y z : Val} {env : Ev} {S : Sto} (h : S[q]? = some (.lst [x, y, z])) : tgU [.name i, .name j, .name k] (.loc q) env S = some (((env.set i (some x)).set j (some y)).set k (some z)) := by
  unfold tgU
  simp only [h]
  rfl
theorem deps_mem {ps : List Pat} {p : Pat} (h : p ∈ ps) : dep p ≤ deps ps := by
  induction ps with
  | nil => cases h
  | cons q ps ih =>
    rw [deps]
    rcases List.mem_cons.mp h with rfl | h
    · omega
    · have := ih h; omega
theorem write_ok : ∀ d k p S, dep p ≤ d → NF p → sz p ≤ 1000 → Wx (Fn (2 * d + k + 2) 60 [enc p] S) S (· = .str (wr p))
  | 0, k, p, S, hd, _, _ => by have := dep_pos p; omega
  | d + 1, k, p, S, hd, hn, hz => by
    have lw : ∀ q, dep q ≤ d → NF q → sz q ≤ 1000 → ∀ S, Wx (Fn (2 * d + k + 3) 60 [enc q] S) S (· = .str (wr q)) := fun q h1 h2 h3 S => by
      have := write_ok d (k + 1) q S h1 h2 h3
      rw [show 2 * d + (k + 1) + 2 = 2 * d + k + 3 by omega] at this
      exact this
    have li : ∀ q (ws : List Val) (b : Bool), dep q ≤ d → NF q → sz q ≤ 1000 → (∀ S, gIn false (.str (wd0 q)) (.tup ws) S = .ok b S) → ∀ S, Wx (Fn (2 * d + k + 3) 59 [enc q, .tup ws] S) S (· = .str (brk b (wr q))) := fun q ws b h1 h2 h3 h4 S =>
      within_ok (m := 2 * d + k + 2) (fun S => write_ok d k q S h1 h2 h3) h4 (by have := wr_len q h2; omega)
    have lvl : 2 * (d + 1) + k + 2 = (2 * d + k + 3) + 1 := by omega
    rw [lvl, fn_write]
    refine wx_trm ?_
    unfold Wx
    refine wp_runF rfl ?_
    unfold b_write
    have hlen := wr_len p hn
    have sk : ∀ {a : List Nat} {b rest : SM} {env : Ev} {S : Sto} {w : List Nat} {Q : Fl × Ev → Sto → Prop}, env[1]? = some (some (.str w)) → a ≠ w → Wp (rest env S) Q → Wp (sSeq (sIf (mEq false datE datE (mVar 1) (mC (.str a))) b sNx) rest env S) Q := fun {a b rest env S w Q} h1 h2 h3 => by
      have q : decide (w = a) = false := decide_eq_false (Ne.symm h2)
      exact wp_skip (by simp only [List.length_cons, List.length_nil, List.map_cons, List.map_nil, Nat.zero_add, Nat.reduceAdd, Nat.reduceSub, Nat.reduceLeDiff, List.replicate, List.cons_append, List.nil_append, if_true, ite_true, and_self, true_and, sSeq, sAsg, sRet, sIf, sNx, sExp, mC, mOp, mUn, mVar, mCall, mCons, mNil, mLst, mTup, mNew, mSl, mNoPart, mPart, mJoin, mLc, mRng1, mRng2, tgM_name, tgM_tup, tgMs_nil, tgMs_cons, Option.bind_some, wp_bind, wp_ok, Src.size, wip, asL, lim_v, List.set_cons_succ, List.set_cons_zero, List.getElem?_cons_zero, List.getElem?_cons_succ, gPlus, gAdd, mEq, datE_bl, datE_int, datE_str, datE_non, dp_ii, dp_bb, dp_ss, dp_ni, dp_in, ev_ii, ev_bb, ev_ss, ev_ni, ev_in, Bool.false_eq_true, if_false, reduceIte, reduceCtorEq, decide_true, decide_false, eq_self, mTst, mOr, mAnd, mNot, mTru, mBl, mChn, mIf, mIsi, mAndV, mOrV, mNotV, tyOf, truth, gCmp, gIsB, gIsN, gNeg, gSub, gLen, gSl, gIx, gRevA, gRev, Bool.not_true, Bool.not_false, h1, q]) h3
    have tk : ∀ {a : List Nat} {b rest : SM} {env : Ev} {S : Sto} {Q : Fl × Ev → Sto → Prop}, env[1]? = some (some (.str a)) → Wp (b env S) (fun r S1 => ∃ v e, r = (.rt v, e) ∧ Q (.rt v, e) S1) → Wp (sSeq (sIf (mEq false datE datE (mVar 1) (mC (.str a))) b sNx) rest env S) Q := fun {a b rest env S Q} h1 h3 =>
      wp_take (by simp only [List.length_cons, List.length_nil, List.map_cons, List.map_nil, Nat.zero_add, Nat.reduceAdd, Nat.reduceSub, Nat.reduceLeDiff, List.replicate, List.cons_append, List.nil_append, if_true, ite_true, and_self, true_and, sSeq, sAsg, sRet, sIf, sNx, sExp, mC, mOp, mUn, mVar, mCall, mCons, mNil, mLst, mTup, mNew, mSl, mNoPart, mPart, mJoin, mLc, mRng1, mRng2, tgM_name, tgM_tup, tgMs_nil, tgMs_cons, Option.bind_some, wp_bind, wp_ok, Src.size, wip, asL, lim_v, List.set_cons_succ, List.set_cons_zero, List.getElem?_cons_zero, List.getElem?_cons_succ, gPlus, gAdd, mEq, datE_bl, datE_int, datE_str, datE_non, dp_ii, dp_bb, dp_ss, dp_ni, dp_in, ev_ii, ev_bb, ev_ss, ev_ni, ev_in, Bool.false_eq_true, if_false, reduceIte, reduceCtorEq, decide_true, decide_false, eq_self, mTst, mOr, mAnd, mNot, mTru, mBl, mChn, mIf, mIsi, mAndV, mOrV, mNotV, tyOf, truth, gCmp, gIsB, gIsN, gNeg, gSub, gLen, gSl, gIx, gRevA, gRev, Bool.not_true, Bool.not_false, h1]) h3
    cases p with
    | sign z =>
      rw [NF] at hn
      obtain ⟨z1, z2⟩ := sg_z hn.2
      refine wp_seqN (Wp.mono (Q := fun r S1 => r = (.nx, [some (enc (.sign z)), some (.str (cs "sign")), some (.loc S.length), none, none, none]) ∧ S1 = S ++ [.lst [.str z]]) (by rw [enc_sign]; simp only [List.length_cons, List.length_nil, List.map_cons, List.map_nil, Nat.zero_add, Nat.reduceAdd, Nat.reduceSub, Nat.reduceLeDiff, List.replicate, List.cons_append, List.nil_append, if_true, ite_true, and_self, true_and, sSeq, sAsg, sRet, sIf, sNx, sExp, mC, mOp, mUn, mVar, mCall, mCons, mNil, mLst, mTup, mNew, mSl, mNoPart, mPart, mJoin, mLc, mRng1, mRng2, tgM_name, tgM_tup, tgMs_nil, tgMs_cons, Option.bind_some, wp_bind, wp_ok, Src.size, wip, asL, lim_v, List.set_cons_succ, List.set_cons_zero, List.getElem?_cons_zero, List.getElem?_cons_succ, gPlus, gAdd, sStar]) fun r S1 ⟨e1, e2⟩ => ⟨_, e1, ?_⟩)
      subst e2
      refine tk rfl (wp_ret ?_)
      simp only [List.length_cons, List.length_nil, List.map_cons, List.map_nil, Nat.zero_add, Nat.reduceAdd, Nat.reduceSub, Nat.reduceLeDiff, List.replicate, List.cons_append, List.nil_append, if_true, ite_true, and_self, true_and, sSeq, sAsg, sRet, sIf, sNx, sExp, mC, mOp, mUn, mVar, mCall, mCons, mNil, mLst, mTup, mNew, mSl, mNoPart, mPart, mJoin, mLc, mRng1, mRng2, tgM_name, tgM_tup, tgMs_nil, tgMs_cons, Option.bind_some, wp_bind, wp_ok, Src.size, wip, asL, lim_v, List.set_cons_succ, List.set_cons_zero, List.getElem?_cons_zero, List.getElem?_cons_succ, gPlus, gAdd, gIx, app_new, at0_, sign_text_ok (n := 2 * d + k + 2) z2]
      exact ⟨_, _, rfl, .inl ⟨_, _, rfl, by rw [wr], Ext.app⟩⟩
    | row ps =>
      rw [NF] at hn
      rw [dep] at hd
      rw [sz] at hz
      refine wp_seqN (Wp.mono (Q := fun r S1 => r = (.nx, [some (enc (.row ps)), some (.str (cs "row")), some (.loc S.length), none, none, none]) ∧ S1 = S ++ [.lst [.tup (encs ps)]]) (by rw [enc_row]; simp only [List.length_cons, List.length_nil, List.map_cons, List.map_nil, Nat.zero_add, Nat.reduceAdd, Nat.reduceSub, Nat.reduceLeDiff, List.replicate, List.cons_append, List.nil_append, if_true, ite_true, and_self, true_and, sSeq, sAsg, sRet, sIf, sNx, sExp, mC, mOp, mUn, mVar, mCall, mCons, mNil, mLst, mTup, mNew, mSl, mNoPart, mPart, mJoin, mLc, mRng1, mRng2, tgM_name, tgM_tup, tgMs_nil, tgMs_cons, Option.bind_some, wp_bind, wp_ok, Src.size, wip, asL, lim_v, List.set_cons_succ, List.set_cons_zero, List.getElem?_cons_zero, List.getElem?_cons_succ, gPlus, gAdd, sStar]) fun r S1 ⟨e1, e2⟩ => ⟨_, e1, ?_⟩)
      subst e2
      refine sk rfl (by decide +kernel) (tk rfl (wp_ret ?_))
      have hl := szs_len ps
      simp only [List.length_cons, List.length_nil, List.map_cons, List.map_nil, Nat.zero_add, Nat.reduceAdd, Nat.reduceSub, Nat.reduceLeDiff, List.replicate, List.cons_append, List.nil_append, if_true, ite_true, and_self, true_and, sSeq, sAsg, sRet, sIf, sNx, sExp, mC, mOp, mUn, mVar, mCall, mCons, mNil, mLst, mTup, mNew, mSl, mNoPart, mPart, mJoin, mLc, mRng1, mRng2, tgM_name, tgM_tup, tgMs_nil, tgMs_cons, Option.bind_some, wp_bind, wp_ok, Src.size, wip, asL, lim_v, List.set_cons_succ, List.set_cons_zero, List.getElem?_cons_zero, List.getElem?_cons_succ, gPlus, gAdd, mSrc, c_e, gIx, app_new, at0_, srcOf, encs_map]
      refine (comp_mapA (ps := ps) (en := enc) (fun q => .str (brk (isK false q) (wr q))) src_vals (by rw [lim_v]; omega) fun q hq => ⟨_, rfl, fun S1 hE => ?_⟩).run fun ys S1 e hE => ?_
      · simp only [List.length_cons, List.length_nil, List.map_cons, List.map_nil, Nat.zero_add, Nat.reduceAdd, Nat.reduceSub, Nat.reduceLeDiff, List.replicate, List.cons_append, List.nil_append, if_true, ite_true, and_self, true_and, sSeq, sAsg, sRet, sIf, sNx, sExp, mC, mOp, mUn, mVar, mCall, mCons, mNil, mLst, mTup, mNew, mSl, mNoPart, mPart, mJoin, mLc, mRng1, mRng2, tgM_name, tgM_tup, tgMs_nil, tgMs_cons, Option.bind_some, wp_bind, wp_ok, Src.size, wip, asL, lim_v, List.set_cons_succ, List.set_cons_zero, List.getElem?_cons_zero, List.getElem?_cons_succ, gPlus, gAdd]
        exact li q _ _ (by have := deps_mem hq; omega) (NFs_iff.mp hn.1 q hq).1 (by have := szs_mem hq; omega) (in_any q) S1
      · subst e
        have e1 : (ps.map fun q => Val.str (brk (isK false q) (wr q))) = (ps.map fun q => brk (isK false q) (wr q)).map Val.str := by rw [List.map_map]; rfl
        have hlen2 : (wrR ps).length ≤ 40 * szs ps := wrR_len ps hn.1
        have q1 : ((ps.map fun q => brk (isK false q) (wr q)).map List.length).sum + (ps.map fun q => brk (isK false q) (wr q)).length * ([] : List Nat).length ≤ lim := by
          rw [sum_len, wrR_flat, lim_v]
          simp
          omega
        rw [e1]
        simp only [lJoin, asStrs_map, if_pos q1, joinL_nil, wrR_flat, wp_ok]
        exact ⟨_, _, rfl, .inl ⟨_, _, rfl, by rw [wr], Ext.app.trans hE⟩⟩
    | any ps =>
      rw [NF] at hn
      rw [dep] at hd
      rw [sz] at hz
      refine wp_seqN (Wp.mono (Q := fun r S1 => r = (.nx, [some (enc (.any ps)), some (.str (cs "any")), some (.loc S.length), none, none, none]) ∧ S1 = S ++ [.lst [.tup (encs ps)]]) (by rw [enc_any]; simp only [List.length_cons, List.length_nil, List.map_cons, List.map_nil, Nat.zero_add, Nat.reduceAdd, Nat.reduceSub, Nat.reduceLeDiff, List.replicate, List.cons_append, List.nil_append, if_true, ite_true, and_self, true_and, sSeq, sAsg, sRet, sIf, sNx, sExp, mC, mOp, mUn, mVar, mCall, mCons, mNil, mLst, mTup, mNew, mSl, mNoPart, mPart, mJoin, mLc, mRng1, mRng2, tgM_name, tgM_tup, tgMs_nil, tgMs_cons, Option.bind_some, wp_bind, wp_ok, Src.size, wip, asL, lim_v, List.set_cons_succ, List.set_cons_zero, List.getElem?_cons_zero, List.getElem?_cons_succ, gPlus, gAdd, sStar]) fun r S1 ⟨e1, e2⟩ => ⟨_, e1, ?_⟩)
      subst e2
      refine sk rfl (by decide +kernel) (sk rfl (by decide +kernel) (tk rfl (wp_ret ?_)))
      have hl := szs_len ps
      simp only [List.length_cons, List.length_nil, List.map_cons, List.map_nil, Nat.zero_add, Nat.reduceAdd, Nat.reduceSub, Nat.reduceLeDiff, List.replicate, List.cons_append, List.nil_append, if_true, ite_true, and_self, true_and, sSeq, sAsg, sRet, sIf, sNx, sExp, mC, mOp, mUn, mVar, mCall, mCons, mNil, mLst, mTup, mNew, mSl, mNoPart, mPart, mJoin, mLc, mRng1, mRng2, tgM_name, tgM_tup, tgMs_nil, tgMs_cons, Option.bind_some, wp_bind, wp_ok, Src.size, wip, asL, lim_v, List.set_cons_succ, List.set_cons_zero, List.getElem?_cons_zero, List.getElem?_cons_succ, gPlus, gAdd, mSrc, c_bar, gIx, app_new, at0_, srcOf, encs_map]
      refine (comp_mapA (ps := ps) (en := enc) (fun q => .str (wr q)) src_vals (by rw [lim_v]; omega) fun q hq => ⟨_, rfl, fun S1 hE => ?_⟩).run fun ys S1 e hE => ?_
      · simp only [List.length_cons, List.length_nil, List.map_cons, List.map_nil, Nat.zero_add, Nat.reduceAdd, Nat.reduceSub, Nat.reduceLeDiff, List.replicate, List.cons_append, List.nil_append, if_true, ite_true, and_self, true_and, sSeq, sAsg, sRet, sIf, sNx, sExp, mC, mOp, mUn, mVar, mCall, mCons, mNil, mLst, mTup, mNew, mSl, mNoPart, mPart, mJoin, mLc, mRng1, mRng2, tgM_name, tgM_tup, tgMs_nil, tgMs_cons, Option.bind_some, wp_bind, wp_ok, Src.size, wip, asL, lim_v, List.set_cons_succ, List.set_cons_zero, List.getElem?_cons_zero, List.getElem?_cons_succ, gPlus, gAdd]
        exact lw q (by have := deps_mem hq; omega) (NFs_iff.mp hn.1 q hq).1 (by have := szs_mem hq; omega) S1
      · subst e
        have e1 : (ps.map fun q => Val.str (wr q)) = (ps.map wr).map Val.str := by rw [List.map_map]; rfl
        have hs := wrA_sum ps hn.1
        have q1 : ((ps.map wr).map List.length).sum + (ps.map wr).length * [124].length ≤ lim := by
          rw [lim_v, List.length_map, List.length_singleton]
          omega
        have e2 : TL.joinL [124] (ps.map wr) = wrA ps := by
          cases ps with
          | nil => simp at hn
          | cons p ps => exact joinL_bar p ps
        rw [e1]
        simp only [lJoin, asStrs_map, if_pos q1, e2, wp_ok]
        exact ⟨_, _, rfl, .inl ⟨_, _, rfl, by rw [wr], Ext.app.trans hE⟩⟩
    | some lo hi q =>
      rw [NF] at hn
      rw [dep] at hd
      rw [sz] at hz
      have hx : ∃ xx : Val, xx = (if hi then .int 1 else .non) := ⟨_, rfl⟩
      obtain ⟨xx, hxx⟩ := hx
      have ee : enc (.some lo hi q) = .tup [.str (cs "some"), .int lo, xx, enc q] := by rw [enc_some, hxx]
      refine wp_seqN (Wp.mono (Q := fun r S1 => r = (.nx, [some (enc (.some lo hi q)), some (.str (cs "some")), some (.loc S.length), none, none, none]) ∧ S1 = S ++ [.lst [.int lo, xx, enc q]]) (by rw [ee]; simp only [List.length_cons, List.length_nil, List.map_cons, List.map_nil, Nat.zero_add, Nat.reduceAdd, Nat.reduceSub, Nat.reduceLeDiff, List.replicate, List.cons_append, List.nil_append, if_true, ite_true, and_self, true_and, sSeq, sAsg, sRet, sIf, sNx, sExp, mC, mOp, mUn, mVar, mCall, mCons, mNil, mLst, mTup, mNew, mSl, mNoPart, mPart, mJoin, mLc, mRng1, mRng2, tgM_name, tgM_tup, tgMs_nil, tgMs_cons, Option.bind_some, wp_bind, wp_ok, Src.size, wip, asL, lim_v, List.set_cons_succ, List.set_cons_zero, List.getElem?_cons_zero, List.getElem?_cons_succ, gPlus, gAdd, sStar]) fun r S1 ⟨e1, e2⟩ => ⟨_, e1, ?_⟩)
      refine sk rfl (by decide +kernel) (sk rfl (by decide +kernel) (sk rfl (by decide +kernel) (tk rfl ?_)))
      have g1 : S1[S.length]? = some (.lst [.int lo, xx, enc q]) := by rw [e2]; exact app_new
      have hE1 : Ext S S1 := by rw [e2]; exact Ext.app
      clear e2
      refine wp_asgU (Wp.mono (Q := fun v S2 => v = .loc S.length ∧ S2 = S1) (by simp only [List.length_cons, List.length_nil, List.map_cons, List.map_nil, Nat.zero_add, Nat.reduceAdd, Nat.reduceSub, Nat.reduceLeDiff, List.replicate, List.cons_append, List.nil_append, if_true, ite_true, and_self, true_and, sSeq, sAsg, sRet, sIf, sNx, sExp, mC, mOp, mUn, mVar, mCall, mCons, mNil, mLst, mTup, mNew, mSl, mNoPart, mPart, mJoin, mLc, mRng1, mRng2, tgM_name, tgM_tup, tgMs_nil, tgMs_cons, Option.bind_some, wp_bind, wp_ok, Src.size, wip, asL, lim_v, List.set_cons_succ, List.set_cons_zero, List.getElem?_cons_zero, List.getElem?_cons_succ, gPlus, gAdd]) fun v S2 ⟨e3, e4⟩ => ?_)
      subst e3 e4
      refine ⟨_, tgU_three g1, ?_⟩
      show Wp (sRet _ [some (enc (.some lo hi q)), some (.str (cs "some")), some (.loc S.length), some (.int lo), some xx, some (enc q)] S2) _
      refine wp_ret ?_
      have hA : Wx (mCall (Fn (2 * d + k + 3) 59) (mCons (mVar 5) (mCons (mTup (mCons (mC (.str (cs "row"))) (mCons (mC (.str (cs "any"))) (mCons (mC (.str (cs "some"))) mNil)))) mNil)) [some (enc (.some lo hi q)), some (.str (cs "some")), some (.loc S.length), some (.int lo), some xx, some (enc q)] S2) S2 (· = .str (brk (inS q) (wr q))) := by
        simp only [List.length_cons, List.length_nil, List.map_cons, List.map_nil, Nat.zero_add, Nat.reduceAdd, Nat.reduceSub, Nat.reduceLeDiff, List.replicate, List.cons_append, List.nil_append, if_true, ite_true, and_self, true_and, sSeq, sAsg, sRet, sIf, sNx, sExp, mC, mOp, mUn, mVar, mCall, mCons, mNil, mLst, mTup, mNew, mSl, mNoPart, mPart, mJoin, mLc, mRng1, mRng2, tgM_name, tgM_tup, tgMs_nil, tgMs_cons, Option.bind_some, wp_bind, wp_ok, Src.size, wip, asL, lim_v, List.set_cons_succ, List.set_cons_zero, List.getElem?_cons_zero, List.getElem?_cons_succ, gPlus, gAdd]
        exact li q _ _ (by omega) hn.2 (by omega) (in_row q) S2
      show Wp (Out.bind _ _) _
      rw [wp_bind]
      refine hA.run fun v S3 e hE3 => ?_
      subst e
      have hq := wr_len q hn.2
      have hb := brk_len (inS q) (wr q)
      have lt1 : ((brk (inS q) (wr q)).length ≤ 99999) = True := eq_true (by omega)
      obtain ⟨c, hc, hg⟩ : ∃ c, cch lo hi = c ∧ ∀ env : Ev, env[3]? = some (some (.int lo)) → env[4]? = some (some xx) → mGetN cn_COUNTS (mTup (mCons (mVar 3) (mCons (mVar 4) mNil))) env S3 = .ok (.str [c]) S3 := by
        rcases hn.1 with ⟨rfl, rfl⟩ | ⟨rfl, rfl⟩ | ⟨rfl, rfl⟩
        · refine ⟨63, rfl, fun env h3 h4 => ?_⟩
          simp only [if_true] at hxx
          subst hxx
          simp only [mGetN, mTup, mCons, mNil, mVar, h3, h4, Out.bind, List.length_cons, List.length_nil, lim_v, Nat.zero_add, Nat.reduceAdd, Nat.reduceLeDiff, if_true]
          rfl
        · refine ⟨42, rfl, fun env h3 h4 => ?_⟩
          simp only [Bool.false_eq_true, if_false] at hxx
          subst hxx
          simp only [mGetN, mTup, mCons, mNil, mVar, h3, h4, Out.bind, List.length_cons, List.length_nil, lim_v, Nat.zero_add, Nat.reduceAdd, Nat.reduceLeDiff, if_true]
          rfl
        · refine ⟨43, rfl, fun env h3 h4 => ?_⟩
          simp only [Bool.false_eq_true, if_false] at hxx
          subst hxx
          simp only [mGetN, mTup, mCons, mNil, mVar, h3, h4, Out.bind, List.length_cons, List.length_nil, lim_v, Nat.zero_add, Nat.reduceAdd, Nat.reduceLeDiff, if_true]
          rfl
      have hg := hg [some (enc (.some lo hi q)), some (.str (cs "some")), some (.loc S.length), some (.int lo), some xx, some (enc q)] rfl rfl
      have gp : gPlus (.str (brk (inS q) (wr q))) (.str [c]) S3 = .ok (.str (brk (inS q) (wr q) ++ [c])) S3 := by
        show (if (brk (inS q) (wr q)).length + [c].length ≤ lim then Out.ok (Val.str (brk (inS q) (wr q) ++ [c])) S3 else .bad) = _
        rw [if_pos (by rw [lim_v, List.length_singleton]; omega)]
      show Wp (Out.bind _ _) _
      rw [hg, wp_bind, wp_ok, gp]
      exact ⟨_, _, rfl, .inl ⟨_, _, rfl, by rw [wr, hc], hE1.trans hE3⟩⟩
    | mark nm q =>
      rw [NF] at hn
      rw [dep] at hd
      rw [sz] at hz
      refine wp_seqN (Wp.mono (Q := fun r S1 => r = (.nx, [some (enc (.mark nm q)), some (.str (cs "mark")), some (.loc S.length), none, none, none]) ∧ S1 = S ++ [.lst [.str nm, enc q]]) (by rw [enc_mark]; simp only [List.length_cons, List.length_nil, List.map_cons, List.map_nil, Nat.zero_add, Nat.reduceAdd, Nat.reduceSub, Nat.reduceLeDiff, List.replicate, List.cons_append, List.nil_append, if_true, ite_true, and_self, true_and, sSeq, sAsg, sRet, sIf, sNx, sExp, mC, mOp, mUn, mVar, mCall, mCons, mNil, mLst, mTup, mNew, mSl, mNoPart, mPart, mJoin, mLc, mRng1, mRng2, tgM_name, tgM_tup, tgMs_nil, tgMs_cons, Option.bind_some, wp_bind, wp_ok, Src.size, wip, asL, lim_v, List.set_cons_succ, List.set_cons_zero, List.getElem?_cons_zero, List.getElem?_cons_succ, gPlus, gAdd, sStar]) fun r S1 ⟨e1, e2⟩ => ⟨_, e1, ?_⟩)
      refine sk rfl (by decide +kernel) (sk rfl (by decide +kernel) (sk rfl (by decide +kernel) (sk rfl (by decide +kernel) (wp_ret ?_))))
      have g1 : S1[S.length]? = some (.lst [.str nm, enc q]) := by rw [e2]; exact app_new
      have hE1 : Ext S S1 := by rw [e2]; exact Ext.app
      clear e2
      have hq := wr_len q hn.2
      have w8 := hn.1.2.1
      have lz1 : (1 + nm.length ≤ 100000) = True := eq_true (by omega)
      have lz2 : (nm.length ≤ 99998) = True := eq_true (by omega)
      have lz3 : (nm.length + 1 + 1 + (wr q).length ≤ 100000) = True := eq_true (by omega)
      have lz4 : (nm.length + 1 + (wr q).length ≤ 99998) = True := eq_true (by omega)
      simp only [List.length_cons, List.length_nil, List.map_cons, List.map_nil, Nat.zero_add, Nat.reduceAdd, Nat.reduceSub, Nat.reduceLeDiff, List.replicate, List.cons_append, List.nil_append, if_true, ite_true, and_self, true_and, sSeq, sAsg, sRet, sIf, sNx, sExp, mC, mOp, mUn, mVar, mCall, mCons, mNil, mLst, mTup, mNew, mSl, mNoPart, mPart, mJoin, mLc, mRng1, mRng2, tgM_name, tgM_tup, tgMs_nil, tgMs_cons, Option.bind_some, wp_bind, wp_ok, Src.size, wip, asL, lim_v, List.set_cons_succ, List.set_cons_zero, List.getElem?_cons_zero, List.getElem?_cons_succ, gPlus, gAdd, c_lt, c_col, c_gt, gIx, g1, at0_, at1_, List.length_append, lz1, lz2, lz3, lz4]
      refine (lw q (by omega) hn.2 (by omega) S1).run fun v S2 e hE2 => ?_
      subst e
      simp only [List.length_cons, List.length_nil, List.map_cons, List.map_nil, Nat.zero_add, Nat.reduceAdd, Nat.reduceSub, Nat.reduceLeDiff, List.replicate, List.cons_append, List.nil_append, if_true, ite_true, and_self, true_and, sSeq, sAsg, sRet, sIf, sNx, sExp, mC, mOp, mUn, mVar, mCall, mCons, mNil, mLst, mTup, mNew, mSl, mNoPart, mPart, mJoin, mLc, mRng1, mRng2, tgM_name, tgM_tup, tgMs_nil, tgMs_cons, Option.bind_some, wp_bind, wp_ok, Src.size, wip, asL, lim_v, List.set_cons_succ, List.set_cons_zero, List.getElem?_cons_zero, List.getElem?_cons_succ, gPlus, gAdd, List.length_append, lz1, lz2, lz3, lz4]
      exact .inl ⟨_, _, rfl, by rw [wr]; simp, hE1.trans hE2⟩
end
end Mx.K07

set_option linter.all false
set_option maxRecDepth 100000
set_option maxHeartbeats 4000000
namespace Mx.K07
open Mx L2 PySem
/-! ### signs, drawn; forms, drawn -/
def NZ (z : List Nat) : Prop := z ≠ [] ∧ sg.filter (fun c => decide (c ∈ z)) = z
theorem sg_nodup : sg.Nodup := by decide +kernel
theorem filter_sub {l z : List Nat} (hn : l.Nodup) (h : z.Sublist l) : l.filter (fun c => decide (c ∈ z)) = z := by
  induction h with
  | slnil => rfl
  | @cons z l a h ih =>
    rw [List.nodup_cons] at hn
    have : a ∉ z := fun m => hn.1 (h.subset m)
    rw [List.filter_cons, if_neg (by simpa using this)]
    exact ih hn.2
  | @cons_cons z l a h ih =>
    rw [List.nodup_cons] at hn
    rw [List.filter_cons, if_pos (by simp)]
    have : l.filter (fun c => decide (c ∈ a :: z)) = l.filter (fun c => decide (c ∈ z)) := List.filter_congr fun c hc => by
      have : c ≠ a := fun e => hn.1 (e ▸ hc)
      simp [this]
    rw [this, ih hn.2]
theorem cut_subl {α : Type} (xs : List α) (lo hi : Option Int) : (cut xs lo hi).Sublist xs := (List.take_sublist _ _).trans (List.drop_sublist _ _)
theorem cut_ne : ∀ a, a < 27 → ∀ b, b < 27 → cut (cs " abcdefghijklmnopqrstuvwxyz") (some ((a : Nat) : Int)) (some (((a : Nat) : Int) + 1 + ((b : Nat) : Int))) ≠ [] := by decide +kernel
section
variable {S : Sto} {D C m n : Nat}
theorem signs_ok (hd : Dk S D C m) (hm : m + 200 ≤ 2 ^ 39) : Dw (Fn (n + 2) 33 [.loc D] S) S D C (m + 30) fun v _ => ∃ z, v = .str z ∧ NZ z := by
  rw [fn__law_signs]
  refine dw_trm hd.ltD hd.ltC ?_ fun _ _ p _ _ _ => p
  unfold Dw runF b__law_signs
  have hl : (cs " abcdefghijklmnopqrstuvwxyz").length = 27 := by decide +kernel
  have hl1 : ((cs " abcdefghijklmnopqrstuvwxyz").length ≤ 100000) = True := eq_true (by rw [hl]; decide)
  simp only [List.length_cons, List.length_nil, List.map_cons, List.map_nil, Nat.zero_add, Nat.reduceAdd, Nat.reduceSub, Nat.reduceLeDiff, List.replicate, List.cons_append, List.nil_append, if_true, ite_true, and_self, true_and, sSeq, sAsg, sRet, sIf, sNx, sExp, mC, mOp, mUn, mVar, mCall, mCons, mNil, mLst, mTup, mNew, mSl, mNoPart, mPart, mJoin, mLc, mRng1, mRng2, tgM_name, tgM_tup, tgMs_nil, tgMs_cons, Option.bind_some, wp_bind, wp_ok, Src.size, wip, asL, lim_v, List.set_cons_succ, List.set_cons_zero, List.getElem?_cons_zero, List.getElem?_cons_succ, gPlus, gAdd]
  refine (dr n).go hd (by omega) (by decide) (by decide) fun i1 S1 g1 h1 d1 k1 => ?_
  refine (dr n).go d1 (by omega) (by decide) (by decide) fun i2 S2 g2 h2 d2 k2 => ?_
  obtain ⟨c, hcm, ec⟩ := ix_strA (z := cs " abcdefghijklmnopqrstuvwxyz") (by rw [hl]; decide) g2 (by rw [hl]; exact h2)
  have K2 := k1.trans k2
  by_cases c1 : i1 < 2
  · simp only [List.length_cons, List.length_nil, List.map_cons, List.map_nil, Nat.zero_add, Nat.reduceAdd, Nat.reduceSub, Nat.reduceLeDiff, List.replicate, List.cons_append, List.nil_append, if_true, ite_true, and_self, true_and, sSeq, sAsg, sRet, sIf, sNx, sExp, mC, mOp, mUn, mVar, mCall, mCons, mNil, mLst, mTup, mNew, mSl, mNoPart, mPart, mJoin, mLc, mRng1, mRng2, tgM_name, tgM_tup, tgMs_nil, tgMs_cons, Option.bind_some, wp_bind, wp_ok, Src.size, wip, asL, lim_v, List.set_cons_succ, List.set_cons_zero, List.getElem?_cons_zero, List.getElem?_cons_succ, gPlus, gAdd, mEq, datE_bl, datE_int, datE_str, datE_non, dp_ii, dp_bb, dp_ss, dp_ni, dp_in, ev_ii, ev_bb, ev_ss, ev_ni, ev_in, Bool.false_eq_true, if_false, reduceIte, reduceCtorEq, decide_true, decide_false, eq_self, mTst, gCmp, c1, ec]
    exact ⟨d2.le (by omega), K2, _, rfl, by simp, nf_one c hcm⟩
  by_cases c2 : i1 = 2
  · subst c2
    have e22 : ((2 : Int) < 2) = False := eq_false (by decide)
    simp only [List.length_cons, List.length_nil, List.map_cons, List.map_nil, Nat.zero_add, Nat.reduceAdd, Nat.reduceSub, Nat.reduceLeDiff, List.replicate, List.cons_append, List.nil_append, if_true, ite_true, and_self, true_and, sSeq, sAsg, sRet, sIf, sNx, sExp, mC, mOp, mUn, mVar, mCall, mCons, mNil, mLst, mTup, mNew, mSl, mNoPart, mPart, mJoin, mLc, mRng1, mRng2, tgM_name, tgM_tup, tgMs_nil, tgMs_cons, Option.bind_some, wp_bind, wp_ok, Src.size, wip, asL, lim_v, List.set_cons_succ, List.set_cons_zero, List.getElem?_cons_zero, List.getElem?_cons_succ, gPlus, gAdd, mEq, datE_bl, datE_int, datE_str, datE_non, dp_ii, dp_bb, dp_ss, dp_ni, dp_in, ev_ii, ev_bb, ev_ss, ev_ni, ev_in, Bool.false_eq_true, if_false, reduceIte, reduceCtorEq, decide_true, decide_false, eq_self, mTst, gCmp, e22]
    exact ⟨d2.le (by omega), K2, _, rfl, by decide +kernel, nf_all⟩
  by_cases c3 : i1 = 3
  · subst c3
    have e32 : ((3 : Int) < 2) = False := eq_false (by decide)
    have e32' : ((3 : Int) = 2) = False := eq_false (by decide)
    simp only [List.length_cons, List.length_nil, List.map_cons, List.map_nil, Nat.zero_add, Nat.reduceAdd, Nat.reduceSub, Nat.reduceLeDiff, List.replicate, List.cons_append, List.nil_append, if_true, ite_true, and_self, true_and, sSeq, sAsg, sRet, sIf, sNx, sExp, mC, mOp, mUn, mVar, mCall, mCons, mNil, mLst, mTup, mNew, mSl, mNoPart, mPart, mJoin, mLc, mRng1, mRng2, tgM_name, tgM_tup, tgMs_nil, tgMs_cons, Option.bind_some, wp_bind, wp_ok, Src.size, wip, asL, lim_v, List.set_cons_succ, List.set_cons_zero, List.getElem?_cons_zero, List.getElem?_cons_succ, gPlus, gAdd, mEq, datE_bl, datE_int, datE_str, datE_non, dp_ii, dp_bb, dp_ss, dp_ni, dp_in, ev_ii, ev_bb, ev_ss, ev_ni, ev_in, Bool.false_eq_true, if_false, reduceIte, reduceCtorEq, decide_true, decide_false, eq_self, mTst, gCmp, e32, e32', gSl, hl1]
    refine (dr n).go d2 (by omega) (by decide) (by decide) fun i3 S3 g3 h3 d3 k3 => ?_
    obtain ⟨a, rfl⟩ : ∃ a : Nat, i2 = a := ⟨i2.toNat, by omega⟩
    obtain ⟨b, rfl⟩ : ∃ b : Nat, i3 = b := ⟨i3.toNat, by omega⟩
    simp only [List.length_cons, List.length_nil, List.map_cons, List.map_nil, Nat.zero_add, Nat.reduceAdd, Nat.reduceSub, Nat.reduceLeDiff, List.replicate, List.cons_append, List.nil_append, if_true, ite_true, and_self, true_and, sSeq, sAsg, sRet, sIf, sNx, sExp, mC, mOp, mUn, mVar, mCall, mCons, mNil, mLst, mTup, mNew, mSl, mNoPart, mPart, mJoin, mLc, mRng1, mRng2, tgM_name, tgM_tup, tgMs_nil, tgMs_cons, Option.bind_some, wp_bind, wp_ok, Src.size, wip, asL, lim_v, List.set_cons_succ, List.set_cons_zero, List.getElem?_cons_zero, List.getElem?_cons_succ, gPlus, gAdd, gSl, hl1]
    exact ⟨d3.le (by omega), K2.trans k3, _, rfl, cut_ne a (by omega) b (by omega), filter_sub sg_nodup (cut_subl _ _ _)⟩
  · simp only [List.length_cons, List.length_nil, List.map_cons, List.map_nil, Nat.zero_add, Nat.reduceAdd, Nat.reduceSub, Nat.reduceLeDiff, List.replicate, List.cons_append, List.nil_append, if_true, ite_true, and_self, true_and, sSeq, sAsg, sRet, sIf, sNx, sExp, mC, mOp, mUn, mVar, mCall, mCons, mNil, mLst, mTup, mNew, mSl, mNoPart, mPart, mJoin, mLc, mRng1, mRng2, tgM_name, tgM_tup, tgMs_nil, tgMs_cons, Option.bind_some, wp_bind, wp_ok, Src.size, wip, asL, lim_v, List.set_cons_succ, List.set_cons_zero, List.getElem?_cons_zero, List.getElem?_cons_succ, gPlus, gAdd, mEq, datE_bl, datE_int, datE_str, datE_non, dp_ii, dp_bb, dp_ss, dp_ni, dp_in, ev_ii, ev_bb, ev_ss, ev_ni, ev_in, Bool.false_eq_true, if_false, reduceIte, reduceCtorEq, decide_true, decide_false, eq_self, mTst, gCmp, c1, c2, c3, mSrc, srcOf]
    have hxs : ((cs " abcdefghijklmnopqrstuvwxyz").map fun c => Val.str [c]).length = 27 := by rw [List.length_map, hl]
    refine Wp.mono (compI_inv (src := .vals ((cs " abcdefghijklmnopqrstuvwxyz").map fun c => Val.str [c])) (xs := (cs " abcdefghijklmnopqrstuvwxyz").map fun c => Val.str [c]) (fun i ys S' => Dk S' D C (m + 2 + i) ∧ Kp S S' D C ∧ ∃ w : List Nat, ys = w.map (fun c => Val.str [c]) ∧ w.length ≤ i ∧ w.Sublist ((cs " abcdefghijklmnopqrstuvwxyz").take i)) (fun _ _ _ _ _ => rfl) (fun _ _ _ => rfl) (fun i x acc S3 hx hI => ?_) _ 0 [] S2 (Nat.zero_add _) ⟨d2.le (by omega), K2, [], rfl, Nat.le_refl _, List.nil_sublist _⟩) fun ys S3 ⟨d3, k3, w, e, w1, ws⟩ => ?_
    · obtain ⟨d3, k3, w, rfl, w1, ws⟩ := hI
      have hi := (List.getElem?_eq_some_iff.mp hx).1
      rw [hxs] at hi
      have hi27 : i < (cs " abcdefghijklmnopqrstuvwxyz").length := by rw [hl]; exact hi
      rw [List.getElem?_map, List.getElem?_eq_getElem hi27] at hx
      have hx := Option.some.inj hx
      have ht : (cs " abcdefghijklmnopqrstuvwxyz").take (i + 1) = (cs " abcdefghijklmnopqrstuvwxyz").take i ++ [(cs " abcdefghijklmnopqrstuvwxyz")[i]] := (List.take_append_getElem hi27).symm
      generalize (cs " abcdefghijklmnopqrstuvwxyz")[i] = c' at hx ht
      subst hx
      refine ⟨_, rfl, ?_⟩
      simp only [List.length_cons, List.length_nil, List.map_cons, List.map_nil, Nat.zero_add, Nat.reduceAdd, Nat.reduceSub, Nat.reduceLeDiff, List.replicate, List.cons_append, List.nil_append, if_true, ite_true, and_self, true_and, sSeq, sAsg, sRet, sIf, sNx, sExp, mC, mOp, mUn, mVar, mCall, mCons, mNil, mLst, mTup, mNew, mSl, mNoPart, mPart, mJoin, mLc, mRng1, mRng2, tgM_name, tgM_tup, tgMs_nil, tgMs_cons, Option.bind_some, wp_bind, wp_ok, Src.size, wip, asL, lim_v, List.set_cons_succ, List.set_cons_zero, List.getElem?_cons_zero, List.getElem?_cons_succ, gPlus, gAdd, mEq, datE_bl, datE_int, datE_str, datE_non, dp_ii, dp_bb, dp_ss, dp_ni, dp_in, ev_ii, ev_bb, ev_ss, ev_ni, ev_in, Bool.false_eq_true, if_false, reduceIte, reduceCtorEq, decide_true, decide_false, eq_self]
      refine (dr n).go d3 (by omega) (by decide) (by decide) fun i3 S4 g3 h3 d4 k4 => ?_
      by_cases c0 : i3 = 0
      · simp only [List.length_cons, List.length_nil, List.map_cons, List.map_nil, Nat.zero_add, Nat.reduceAdd, Nat.reduceSub, Nat.reduceLeDiff, List.replicate, List.cons_append, List.nil_append, if_true, ite_true, and_self, true_and, sSeq, sAsg, sRet, sIf, sNx, sExp, mC, mOp, mUn, mVar, mCall, mCons, mNil, mLst, mTup, mNew, mSl, mNoPart, mPart, mJoin, mLc, mRng1, mRng2, tgM_name, tgM_tup, tgMs_nil, tgMs_cons, Option.bind_some, wp_bind, wp_ok, Src.size, wip, asL, lim_v, List.set_cons_succ, List.set_cons_zero, List.getElem?_cons_zero, List.getElem?_cons_succ, gPlus, gAdd, mEq, datE_bl, datE_int, datE_str, datE_non, dp_ii, dp_bb, dp_ss, dp_ni, dp_in, ev_ii, ev_bb, ev_ss, ev_ni, ev_in, Bool.false_eq_true, if_false, reduceIte, reduceCtorEq, decide_true, decide_false, eq_self, c0]
        exact ⟨by rw [List.length_map]; omega, d4.le (by omega), k3.trans k4, w ++ [c'], by simp, by simp; omega, by rw [ht]; exact ws.append (List.Sublist.refl _)⟩
      · simp only [List.length_cons, List.length_nil, List.map_cons, List.map_nil, Nat.zero_add, Nat.reduceAdd, Nat.reduceSub, Nat.reduceLeDiff, List.replicate, List.cons_append, List.nil_append, if_true, ite_true, and_self, true_and, sSeq, sAsg, sRet, sIf, sNx, sExp, mC, mOp, mUn, mVar, mCall, mCons, mNil, mLst, mTup, mNew, mSl, mNoPart, mPart, mJoin, mLc, mRng1, mRng2, tgM_name, tgM_tup, tgMs_nil, tgMs_cons, Option.bind_some, wp_bind, wp_ok, Src.size, wip, asL, lim_v, List.set_cons_succ, List.set_cons_zero, List.getElem?_cons_zero, List.getElem?_cons_succ, gPlus, gAdd, mEq, datE_bl, datE_int, datE_str, datE_non, dp_ii, dp_bb, dp_ss, dp_ni, dp_in, ev_ii, ev_bb, ev_ss, ev_ni, ev_in, Bool.false_eq_true, if_false, reduceIte, reduceCtorEq, decide_true, decide_false, eq_self, c0]
        exact ⟨d4.le (by omega), k3.trans k4, w, rfl, by omega, by rw [ht]; exact ws.trans (List.sublist_append_left _ _)⟩
    · subst e
      rw [hxs] at w1 d3 ws
      rw [List.take_of_length_le (by rw [hl]; exact Nat.le_refl _)] at ws
      have hd2 : datE (.loc S3.length) (S3 ++ [.lst (w.map fun c => Val.str [c])] ++ [.lst [.str [c]]]) = some (.list (dvs (w.map fun c => Val.str [c]))) := datE_loc (app_get app_new) (pureVs_all fun x hx => by
        obtain ⟨z, _, rfl⟩ := List.mem_map.mp hx
        rfl)
      have hw : ((w.map fun c => Val.str [c]).length ≤ 99990) = True := eq_true (by rw [List.length_map]; omega)
      have a1 : ((1 : Int).natAbs ≤ 100000) = True := eq_true (by decide)
      have a0 : ((0 : Int).natAbs ≤ 100000) = True := eq_true (by decide)
      have t1 : (1 : Int).toNat = 1 := rfl
      have t0 : (0 : Int).toNat = 0 := rfl
      have hj : ∀ w : List Nat, asStrs (w.map fun c => Val.str [c]) = some (w.map fun c => [c]) := asStrs_chr
      simp only [List.length_cons, List.length_nil, List.map_cons, List.map_nil, Nat.zero_add, Nat.reduceAdd, Nat.reduceSub, Nat.reduceLeDiff, List.replicate, List.cons_append, List.nil_append, if_true, ite_true, and_self, true_and, sSeq, sAsg, sRet, sIf, sNx, sExp, mC, mOp, mUn, mVar, mCall, mCons, mNil, mLst, mTup, mNew, mSl, mNoPart, mPart, mJoin, mLc, mRng1, mRng2, tgM_name, tgM_tup, tgMs_nil, tgMs_cons, Option.bind_some, wp_bind, wp_ok, Src.size, wip, asL, lim_v, List.set_cons_succ, List.set_cons_zero, List.getElem?_cons_zero, List.getElem?_cons_succ, gPlus, gAdd, mEq, datE_bl, datE_int, datE_str, datE_non, dp_ii, dp_bb, dp_ss, dp_ni, dp_in, ev_ii, ev_bb, ev_ss, ev_ni, ev_in, Bool.false_eq_true, if_false, reduceIte, reduceCtorEq, decide_true, decide_false, eq_self, ec, hd2, datL_nil, dep_nil, eqv_nil, dvs_emp, mBl, gInt, gTimes]
      have K3 := k3.app2 (T := [.lst (w.map fun c => Val.str [c])])
      cases w with
      | nil =>
        have hj := join_chr (w := [c]) (S := S3 ++ [.lst [], .lst [.str [c]], .lst [.str [c]], .lst [.str [c]]]) (by simp [lim_v])
        have cc : cs "" = [] := rfl
        simp only [List.length_cons, List.length_nil, List.map_cons, List.map_nil, Nat.zero_add, Nat.reduceAdd, Nat.reduceSub, Nat.reduceLeDiff, List.replicate, List.cons_append, List.nil_append, if_true, ite_true, and_self, true_and, sSeq, sAsg, sRet, sIf, sNx, sExp, mC, mOp, mUn, mVar, mCall, mCons, mNil, mLst, mTup, mNew, mSl, mNoPart, mPart, mJoin, mLc, mRng1, mRng2, tgM_name, tgM_tup, tgMs_nil, tgMs_cons, Option.bind_some, wp_bind, wp_ok, Src.size, wip, asL, lim_v, List.set_cons_succ, List.set_cons_zero, List.getElem?_cons_zero, List.getElem?_cons_succ, gPlus, gAdd, mEq, datE_bl, datE_int, datE_str, datE_non, dp_ii, dp_bb, dp_ss, dp_ni, dp_in, ev_ii, ev_bb, ev_ss, ev_ni, ev_in, Bool.false_eq_true, if_false, reduceIte, reduceCtorEq, decide_true, decide_false, eq_self, List.append_assoc, List.length_append, app_at, app_at0, app_set, app_set0, Nat.add_assoc, Nat.reduceLT, asE, List.isEmpty_nil, a1, t1, List.flatten_cons, List.flatten_nil, List.append_nil, Nat.reduceMul, and_self, cc]
        have hj2 : lJoin [] [Val.str [c]] (S3 ++ [.lst [], .lst [.str [c]], .lst [.str [c]], .lst [.str [c]]]) = _ := hj
        rw [hj2]
        exact ⟨d3.app.le (by omega), k3.trans Kp.app, _, rfl, by simp, nf_one c hcm⟩
      | cons c' w' =>
        have cc : cs "" = [] := rfl
        rw [List.length_cons] at w1
        have hw2 : ((w'.map fun c => Val.str [c]).length ≤ 99999) = True := eq_true (by rw [List.length_map]; omega)
        have hj := fun S => join_chr (w := c' :: w') (S := S) (by rw [List.length_cons, lim_v]; omega)
        simp only [List.map_cons] at hj
        simp only [List.length_cons, List.length_nil, List.map_cons, List.map_nil, Nat.zero_add, Nat.reduceAdd, Nat.reduceSub, Nat.reduceLeDiff, List.replicate, List.cons_append, List.nil_append, if_true, ite_true, and_self, true_and, sSeq, sAsg, sRet, sIf, sNx, sExp, mC, mOp, mUn, mVar, mCall, mCons, mNil, mLst, mTup, mNew, mSl, mNoPart, mPart, mJoin, mLc, mRng1, mRng2, tgM_name, tgM_tup, tgMs_nil, tgMs_cons, Option.bind_some, wp_bind, wp_ok, Src.size, wip, asL, lim_v, List.set_cons_succ, List.set_cons_zero, List.getElem?_cons_zero, List.getElem?_cons_succ, gPlus, gAdd, mEq, datE_bl, datE_int, datE_str, datE_non, dp_ii, dp_bb, dp_ss, dp_ni, dp_in, ev_ii, ev_bb, ev_ss, ev_ni, ev_in, Bool.false_eq_true, if_false, reduceIte, reduceCtorEq, decide_true, decide_false, eq_self, List.append_assoc, List.length_append, app_at, app_at0, app_set, app_set0, Nat.add_assoc, Nat.reduceLT, asE, List.isEmpty_cons, a0, t0, List.flatten_nil, List.append_nil, Nat.reduceMul, and_self, cc, Nat.mul_zero, Nat.zero_le, hw2, hj]
        exact ⟨d3.app.le (by omega), k3.trans Kp.app, _, rfl, by simp, filter_sub sg_nodup ws⟩
end
end Mx.K07

set_option linter.all false
set_option maxRecDepth 100000
set_option maxHeartbeats 4000000
namespace Mx.K07
open Mx L2 PySem
section
variable {S : Sto} {D C m n : Nat}
def cF (d : Nat) : Nat := 500 * 5 ^ d
def PN (nms : List (List Nat)) (d : Nat) (p : Pat) : Prop := NF p ∧ (∀ z ∈ mkP p, z ∈ nms) ∧ dep p ≤ d
theorem mkPs_sub {nms : List (List Nat)} : ∀ {ps : List Pat}, (∀ p ∈ ps, ∀ z ∈ mkP p, z ∈ nms) → ∀ z ∈ mkPs ps, z ∈ nms
  | [], _, z, hz => by rw [mkPs] at hz; cases hz
  | p :: ps, h, z, hz => by
    rw [mkPs] at hz
    rcases List.mem_append.mp hz with hz | hz
    · exact h p List.mem_cons_self z hz
    · exact mkPs_sub (fun q hq => h q (List.mem_cons_of_mem _ hq)) z hz
theorem mkPs_mem {p : Pat} {z : List Nat} : ∀ {ps : List Pat}, p ∈ ps → z ∈ mkP p → z ∈ mkPs ps
  | q :: ps, h, hz => by
    rw [mkPs]
    rcases List.mem_cons.mp h with rfl | h
    · exact List.mem_append_left _ hz
    · exact List.mem_append_right _ (mkPs_mem h hz)
theorem spr_from {b : Bool} {ps : List Pat} {p : Pat} (h : p ∈ spr b ps) : ∃ q ∈ ps, dep p ≤ dep q ∧ ∀ z ∈ mkP p, z ∈ mkP q := by
  obtain ⟨q, hq, hp⟩ := List.mem_flatMap.mp h
  refine ⟨q, hq, ?_⟩
  have self : spr1 b q = [q] → dep p ≤ dep q ∧ ∀ z ∈ mkP p, z ∈ mkP q := fun e => by
    rw [e] at hp
    rw [List.mem_singleton.mp hp]
    exact ⟨Nat.le_refl _, fun _ h => h⟩
  cases q with
  | row qs =>
    cases b with
    | true => exact ⟨by rw [dep]; have := Mx.deps_mem (ps := qs) hp; omega, fun z hz => mkPs_mem (ps := qs) hp hz⟩
    | false => exact self rfl
  | any qs =>
    cases b with
    | false => exact ⟨by rw [dep]; have := Mx.deps_mem (ps := qs) hp; omega, fun z hz => mkPs_mem (ps := qs) hp hz⟩
    | true => exact self rfl
  | sign z => exact self rfl
  | some lo hi q => exact self rfl
  | mark nm q => exact self rfl
structure Fo (nms : List (List Nat)) (d : Nat) (S : Sto) (D C L m l : Nat) (v : Val) (S' : Sto) : Prop where
  pat : ∃ p l', v = enc p ∧ PN nms d p ∧ S'[L]? = some (.lst [.int ((l' : Nat) : Int)]) ∧ sz p + l' ≤ l + 1
  dk : Dk S' D C m
  kq : Kq S S' D C L
theorem fo_trm {nms : List (List Nat)} {d L l : Nat} {g : List Val → M Val} {xs : List Val} (hd : D < S.length) (hc : C < S.length) (hL : L < S.length) (h : Wp (g xs S) (Fo nms d S D C L m l)) : Wp (trm g xs S) (Fo nms d S D C L m l) :=
  wp_trm h fun v S1 ⟨⟨p, l', a, b, c, e⟩, f, g⟩ _ _ => ⟨⟨p, l', a, b, by rw [List.getElem?_take_of_lt hL]; exact c, e⟩, f.take hd hc, g.take⟩
theorem fo_of {nms : List (List Nat)} {d L l l' : Nat} {p : Pat} {S' : Sto} (hp : PN nms d p) (hL : S'[L]? = some (.lst [.int ((l' : Nat) : Int)])) (hz : sz p + l' ≤ l + 1) (dk : Dk S' D C m) (kq : Kq S S' D C L) : Fo nms d S D C L m l (enc p) S' := ⟨⟨p, l', rfl, hp, hL, hz⟩, dk, kq⟩
/-- the parts, drawn one by one -/
theorem parts_drawn {N d c L Nm r l : Nat} {S0 : Sto} {env : Ev} (he0 : env[0]? = some (some (.loc D))) (he1 : env[1]? = some (some (.loc L))) (he2 : env[2]? = some (some (.int ((d + 2 : Nat) : Int)))) (he3 : env[3]? = some (some (.loc Nm))) (hr : r ≤ 4) (hD : Dk S0 D C m) (hL : S0[L]? = some (.lst [.int (l : Nat)]))
    {nms : List (List Nat)} (hN : S0[Nm]? = some (.lst (nms.map Val.str))) (n1 : Nm ≠ D) (n2 : Nm ≠ C) (n3 : Nm ≠ L) (hm : m + r * c ≤ 2 ^ 39) (hl : l + r ≤ 900)
    (ih : ∀ S m l, Dk S D C m → S[L]? = some (.lst [.int ((l : Nat) : Int)]) → S[Nm]? = some (.lst (nms.map Val.str)) → m + c ≤ 2 ^ 39 → l ≤ 900 → Wp (Fn N 12 [.loc D, .loc L, .int ((d + 1 : Nat) : Int), .loc Nm] S) (Fo nms (d + 1) S D C L (m + c) l)) :
    Wp (compI (.vals (upTo 0 r)) (.name 10) mYes (mCall (Fn N 12) (mCons (mVar 0) (mCons (mVar 1) (mCons (mOp gSub (mVar 2) (mC (.int 1))) (mCons (mVar 3) mNil))))) env r 0 [] S0)
      fun ys S' => ∃ ps l', ys = encs ps ∧ (∀ p ∈ ps, PN nms (d + 1) p) ∧ S'[L]? = some (.lst [.int ((l' : Nat) : Int)]) ∧ szs ps + l' ≤ l + r ∧ Dk S' D C (m + r * c) ∧ Kq S0 S' D C L := by
  have hul : (upTo 0 r).length = r := upTo_len
  refine Wp.mono (compI_inv (src := .vals (upTo 0 r)) (xs := upTo 0 r) (fun i ys S' => ∃ ps l', ys = encs ps ∧ ps.length = i ∧ (∀ p ∈ ps, PN nms (d + 1) p) ∧ S'[L]? = some (.lst [.int ((l' : Nat) : Int)]) ∧ szs ps + l' ≤ l + i ∧ Dk S' D C (m + i * c) ∧ Kq S0 S' D C L) (fun _ _ _ _ _ => rfl) (fun _ _ _ => rfl) (fun i x acc S1 hx hI => ?_) r 0 [] S0 (by omega) ⟨[], l, rfl, rfl, (fun _ h => by cases h), hL, by rw [szs]; omega, by rw [Nat.zero_mul]; exact hD, kq_of Kp.refl⟩) fun ys S' ⟨ps, l', a, b, h⟩ => ⟨ps, l', a, by rw [hul] at h; exact h⟩
  obtain ⟨ps, l', rfl, h1, h2, h3, h4, h5, h6⟩ := hI
  obtain ⟨hi, _⟩ := upTo_at hx
  have q0 : (env.set 10 (some x))[0]? = some (some (.loc D)) := by rw [List.getElem?_set_ne (by omega)]; exact he0
  have q1 : (env.set 10 (some x))[1]? = some (some (.loc L)) := by rw [List.getElem?_set_ne (by omega)]; exact he1
  have q2 : (env.set 10 (some x))[2]? = some (some (.int ((d + 2 : Nat) : Int))) := by rw [List.getElem?_set_ne (by omega)]; exact he2
  have q3 : (env.set 10 (some x))[3]? = some (some (.loc Nm)) := by rw [List.getElem?_set_ne (by omega)]; exact he3
  have z1 : (((d + 2 : Nat) : Int) - 1) = ((d + 1 : Nat) : Int) := by omega
  have hic : (i + 1) * c = i * c + c := Nat.succ_mul i c
  have hrc : (i + 1) * c ≤ r * c := Nat.mul_le_mul_right c hi
  refine ⟨env.set 10 (some x), rfl, ?_⟩
  simp only [mYes, wp_ok, if_true, mOp, mC, mCall, mCons, mVar, mNil, q0, q1, q2, q3, wp_bind, gSub, z1]
  have hN1 : S1[Nm]? = some (.lst (nms.map Val.str)) := by rw [h6.get _ (get_lt hN) n1 n2 n3]; exact hN
  refine Wp.mono (ih S1 _ l' h5 h3 hN1 (by omega) (by omega)) fun v S2 ⟨⟨p, l2, e, f1, f2, f3⟩, f4, f5⟩ => ?_
  subst e
  refine ⟨by rw [encs_len, lim_v]; omega, ps ++ [p], l2, by rw [encs_app]; rfl, by simp [h1], (fun q hq => ?_), f2, by rw [szs_app, szs, szs]; omega, f4.le (by omega), h6.trans f5⟩
  rcases List.mem_append.mp hq with hq | hq
  · exact h2 q hq
  · rw [List.mem_singleton.mp hq]; exact f1
end
section
variable {D C : Nat}
theorem deps_le {d : Nat} : ∀ {ps : List Pat}, (∀ p ∈ ps, dep p ≤ d) → deps ps ≤ d
  | [], _ => Nat.zero_le _
  | p :: ps, h => by
    rw [deps]
    have := h p List.mem_cons_self
    have := deps_le fun q hq => h q (List.mem_cons_of_mem _ hq)
    omega
def FormAt (D C L Nm : Nat) (nms : List (List Nat)) (k d : Nat) : Prop := ∀ S m l, Dk S D C m → S[L]? = some (.lst [.int ((l : Nat) : Int)]) → S[Nm]? = some (.lst (nms.map Val.str)) → m + cF d ≤ 2 ^ 39 → l ≤ 900 →
  Wp (Fn (d + k + 4) 12 [.loc D, .loc L, .int ((d + 1 : Nat) : Int), .loc Nm] S) (Fo nms (d + 1) S D C L (m + cF d) l)
theorem form_step {L Nm k d : Nat} {nms : List (List Nat)} (hn : 0 < nms.length) (hn2 : nms.length ≤ 10) (hnm : ∀ z ∈ nms, OkN z) (L1 : L ≠ D) (L2 : L ≠ C) (n1 : Nm ≠ D) (n2 : Nm ≠ C) (n3 : Nm ≠ L) (ih : ∀ d', d = d' + 1 → FormAt D C L Nm nms k d') : FormAt D C L Nm nms k d := by
  intro S m l hD hL hN hm hl
  have hc0 : 500 ≤ cF d := by
    have : 1 ≤ 5 ^ d := Nat.one_le_pow _ _ (by decide)
    unfold cF; omega
  rw [show d + k + 4 = (d + k + 3) + 1 from rfl, fn__law_form]
  refine fo_trm hD.ltD hD.ltC (get_lt hL) ?_
  unfold runF b__law_form
  simp only [List.length_cons, List.length_nil, List.map_cons, List.map_nil, Nat.zero_add, Nat.reduceAdd, Nat.reduceSub, Nat.reduceLeDiff, List.replicate, List.cons_append, List.nil_append, if_true, ite_true, and_self, true_and, sSeq, sAsg, sRet, sIf, sNx, sExp, mC, mOp, mUn, mVar, mCall, mCons, mNil, mLst, mTup, mNew, mSl, mNoPart, mPart, mJoin, mLc, mRng1, mRng2, tgM_name, tgM_tup, tgMs_nil, tgMs_cons, Option.bind_some, wp_bind, wp_ok, Src.size, wip, asL, lim_v, List.set_cons_succ, List.set_cons_zero, List.getElem?_cons_zero, List.getElem?_cons_succ, gPlus, gAdd]
  refine (dr (d + k + 2)).go hD (by omega) (by decide) (by decide) fun i1 S1 g1 h1 d1 k1 => ?_
  refine (dr (d + k + 2)).go d1.app (by omega) (by decide) (by decide) fun i2 S2 g2 h2 d2 k2 => ?_
  obtain ⟨x, hx, ex⟩ := pick_ix d1 k2 g2 h2
  obtain ⟨b, hb, hb2, rfl⟩ : ∃ b : Nat, 2 ≤ b ∧ b ≤ 4 ∧ x = .int (b : Nat) := by
    simp only [List.mem_cons, List.not_mem_nil, or_false] at hx
    rcases hx with rfl | rfl | rfl | rfl
    · exact ⟨2, by omega, by omega, rfl⟩
    · exact ⟨2, by omega, by omega, rfl⟩
    · exact ⟨3, by omega, by omega, rfl⟩
    · exact ⟨4, by omega, by omega, rfl⟩
  simp only [List.length_cons, List.length_nil, List.map_cons, List.map_nil, Nat.zero_add, Nat.reduceAdd, Nat.reduceSub, Nat.reduceLeDiff, List.replicate, List.cons_append, List.nil_append, if_true, ite_true, and_self, true_and, sSeq, sAsg, sRet, sIf, sNx, sExp, mC, mOp, mUn, mVar, mCall, mCons, mNil, mLst, mTup, mNew, mSl, mNoPart, mPart, mJoin, mLc, mRng1, mRng2, tgM_name, tgM_tup, tgMs_nil, tgMs_cons, Option.bind_some, wp_bind, wp_ok, Src.size, wip, asL, lim_v, List.set_cons_succ, List.set_cons_zero, List.getElem?_cons_zero, List.getElem?_cons_succ, gPlus, gAdd, ex]
  refine (dr (d + k + 2)).go d2.app (by omega) (by decide) (by decide) fun i3 S3 g3 h3 d3 k3 => ?_
  obtain ⟨x, hx, ex⟩ := pick_ix d2 k3 g3 h3
  obtain ⟨lo, hi, rfl, hlh⟩ : ∃ (lo : Nat) (hi : Bool), x = .tup [.int (lo : Nat), if hi then .int 1 else .non] ∧ ((lo = 0 ∧ hi = true) ∨ (lo = 0 ∧ hi = false) ∨ (lo = 1 ∧ hi = false)) := by
    simp only [List.mem_cons, List.not_mem_nil, or_false] at hx
    rcases hx with rfl | rfl | rfl
    · exact ⟨0, true, rfl, by simp⟩
    · exact ⟨0, false, rfl, by simp⟩
    · exact ⟨1, false, rfl, by simp⟩
  simp only [List.length_cons, List.length_nil, List.map_cons, List.map_nil, Nat.zero_add, Nat.reduceAdd, Nat.reduceSub, Nat.reduceLeDiff, List.replicate, List.cons_append, List.nil_append, if_true, ite_true, and_self, true_and, sSeq, sAsg, sRet, sIf, sNx, sExp, mC, mOp, mUn, mVar, mCall, mCons, mNil, mLst, mTup, mNew, mSl, mNoPart, mPart, mJoin, mLc, mRng1, mRng2, tgM_name, tgM_tup, tgMs_nil, tgMs_cons, Option.bind_some, wp_bind, wp_ok, Src.size, wip, asL, lim_v, List.set_cons_succ, List.set_cons_zero, List.getElem?_cons_zero, List.getElem?_cons_succ, gPlus, gAdd, ex]
  refine Wp.mono (signs_ok (n := d + k + 1) d3 (by omega)) fun v S4 ⟨d4, k4, z, e, hz⟩ => ?_
  subst e
  have K : Kp S S4 D C := k1.trans ((kp_pick k2).trans ((kp_pick k3).trans k4))
  have hL4 : S4[L]? = some (.lst [.int (l : Int)]) := by rw [K.get _ (get_lt hL) L1 L2]; exact hL
  have hN4 : S4[Nm]? = some (.lst (nms.map Val.str)) := by rw [K.get _ (get_lt hN) n1 n2]; exact hN
  have d4 : Dk S4 D C (m + 33) := d4.le (by omega)
  clear d1 d2 d3 k1 k2 k3 k4 ex hx
  have kq : Kq S S4 D C L := kq_of K
  have sgn : ∀ z, NZ z → Fo nms (d + 1) S D C L (m + cF d) l (.tup [.str (cs "sign"), .str z]) S4 := fun z hz => fo_of (p := .sign z) ⟨by rw [NF]; exact hz, (fun _ h => by rw [mkP] at h; cases h), by rw [dep]; omega⟩ hL4 (by rw [sz]; omega) (d4.le (by omega)) kq
  by_cases c9 : i1 = 9
  · simp only [List.length_cons, List.length_nil, List.map_cons, List.map_nil, Nat.zero_add, Nat.reduceAdd, Nat.reduceSub, Nat.reduceLeDiff, List.replicate, List.cons_append, List.nil_append, if_true, ite_true, and_self, true_and, sSeq, sAsg, sRet, sIf, sNx, sExp, mC, mOp, mUn, mVar, mCall, mCons, mNil, mLst, mTup, mNew, mSl, mNoPart, mPart, mJoin, mLc, mRng1, mRng2, tgM_name, tgM_tup, tgMs_nil, tgMs_cons, Option.bind_some, wp_bind, wp_ok, Src.size, wip, asL, lim_v, List.set_cons_succ, List.set_cons_zero, List.getElem?_cons_zero, List.getElem?_cons_succ, gPlus, gAdd, mEq, datE_bl, datE_int, datE_str, datE_non, dp_ii, dp_bb, dp_ss, dp_ni, dp_in, ev_ii, ev_bb, ev_ss, ev_ni, ev_in, Bool.false_eq_true, if_false, reduceIte, reduceCtorEq, decide_true, decide_false, eq_self, c9]
    exact fo_of (p := .row []) ⟨by rw [NF, NFs]; exact ⟨trivial, by simp⟩, (fun _ h => by rw [mkP, mkPs] at h; cases h), by rw [dep, deps]; omega⟩ hL4 (by rw [sz, szs]; omega) (d4.le (by omega)) kq
  by_cases c2 : i1 < 2
  · simp only [List.length_cons, List.length_nil, List.map_cons, List.map_nil, Nat.zero_add, Nat.reduceAdd, Nat.reduceSub, Nat.reduceLeDiff, List.replicate, List.cons_append, List.nil_append, if_true, ite_true, and_self, true_and, sSeq, sAsg, sRet, sIf, sNx, sExp, mC, mOp, mUn, mVar, mCall, mCons, mNil, mLst, mTup, mNew, mSl, mNoPart, mPart, mJoin, mLc, mRng1, mRng2, tgM_name, tgM_tup, tgMs_nil, tgMs_cons, Option.bind_some, wp_bind, wp_ok, Src.size, wip, asL, lim_v, List.set_cons_succ, List.set_cons_zero, List.getElem?_cons_zero, List.getElem?_cons_succ, gPlus, gAdd, mEq, datE_bl, datE_int, datE_str, datE_non, dp_ii, dp_bb, dp_ss, dp_ni, dp_in, ev_ii, ev_bb, ev_ss, ev_ni, ev_in, Bool.false_eq_true, if_false, reduceIte, reduceCtorEq, decide_true, decide_false, eq_self, c9, mOr, mTst, gCmp, c2]
    exact sgn z hz
  by_cases cd : d = 0
  · have cd2 : (((d + 1 : Nat) : Int) < 2) = True := eq_true (by omega)
    simp only [List.length_cons, List.length_nil, List.map_cons, List.map_nil, Nat.zero_add, Nat.reduceAdd, Nat.reduceSub, Nat.reduceLeDiff, List.replicate, List.cons_append, List.nil_append, if_true, ite_true, and_self, true_and, sSeq, sAsg, sRet, sIf, sNx, sExp, mC, mOp, mUn, mVar, mCall, mCons, mNil, mLst, mTup, mNew, mSl, mNoPart, mPart, mJoin, mLc, mRng1, mRng2, tgM_name, tgM_tup, tgMs_nil, tgMs_cons, Option.bind_some, wp_bind, wp_ok, Src.size, wip, asL, lim_v, List.set_cons_succ, List.set_cons_zero, List.getElem?_cons_zero, List.getElem?_cons_succ, gPlus, gAdd, mEq, datE_bl, datE_int, datE_str, datE_non, dp_ii, dp_bb, dp_ss, dp_ni, dp_in, ev_ii, ev_bb, ev_ss, ev_ni, ev_in, Bool.false_eq_true, if_false, reduceIte, reduceCtorEq, decide_true, decide_false, eq_self, c9, mOr, mTst, gCmp, c2, cd2]
    exact sgn z hz
  have cd2 : (((d + 1 : Nat) : Int) < 2) = False := eq_false (by omega)
  by_cases cl : l < 4
  · have cl2 : ((l : Int) < 4) = True := eq_true (by omega)
    simp only [List.length_cons, List.length_nil, List.map_cons, List.map_nil, Nat.zero_add, Nat.reduceAdd, Nat.reduceSub, Nat.reduceLeDiff, List.replicate, List.cons_append, List.nil_append, if_true, ite_true, and_self, true_and, sSeq, sAsg, sRet, sIf, sNx, sExp, mC, mOp, mUn, mVar, mCall, mCons, mNil, mLst, mTup, mNew, mSl, mNoPart, mPart, mJoin, mLc, mRng1, mRng2, tgM_name, tgM_tup, tgMs_nil, tgMs_cons, Option.bind_some, wp_bind, wp_ok, Src.size, wip, asL, lim_v, List.set_cons_succ, List.set_cons_zero, List.getElem?_cons_zero, List.getElem?_cons_succ, gPlus, gAdd, mEq, datE_bl, datE_int, datE_str, datE_non, dp_ii, dp_bb, dp_ss, dp_ni, dp_in, ev_ii, ev_bb, ev_ss, ev_ni, ev_in, Bool.false_eq_true, if_false, reduceIte, reduceCtorEq, decide_true, decide_false, eq_self, c9, mOr, mTst, gCmp, c2, cd2, gIx, hL4, at0_, cl2]
    exact sgn z hz
  have cl2 : ((l : Int) < 4) = False := eq_false (by omega)
  obtain ⟨d', rfl⟩ : ∃ d', d = d' + 1 := ⟨d - 1, by omega⟩
  have ih := ih d' rfl
  have hcF : cF (d' + 1) = 5 * cF d' := by unfold cF; rw [Nat.pow_succ]; omega
  have hc1 : 500 ≤ cF d' := by
    have : 1 ≤ 5 ^ d' := Nat.one_le_pow _ _ (by decide)
    unfold cF; omega
  have lv : d' + 1 + k + 3 = d' + k + 4 := by omega
  have i10 : ixN 1 0 = some 0 := rfl
  have z1 : (((d' + 1 + 1 : Nat) : Int) - 1) = ((d' + 1 : Nat) : Int) := by omega
  have one : ((l : Int) - 1) = ((l - 1 : Nat) : Int) := by omega
  have hset : ∀ (j : Nat), Dk (S4.set L (.lst [.int (j : Nat)])) D C (m + 33) ∧ (S4.set L (.lst [.int ((j : Nat) : Int)]))[L]? = some (.lst [.int ((j : Nat) : Int)]) ∧ (S4.set L (.lst [.int ((j : Nat) : Int)]))[Nm]? = some (.lst (nms.map Val.str)) ∧ Kq S (S4.set L (.lst [.int ((j : Nat) : Int)])) D C L := fun j => ⟨dk_set_ne d4 L1 L2, set_get_self hL4, set_get_ne hN4 (Ne.symm n3), kq.set⟩
  simp only [List.length_cons, List.length_nil, List.map_cons, List.map_nil, Nat.zero_add, Nat.reduceAdd, Nat.reduceSub, Nat.reduceLeDiff, List.replicate, List.cons_append, List.nil_append, if_true, ite_true, and_self, true_and, sSeq, sAsg, sRet, sIf, sNx, sExp, mC, mOp, mUn, mVar, mCall, mCons, mNil, mLst, mTup, mNew, mSl, mNoPart, mPart, mJoin, mLc, mRng1, mRng2, tgM_name, tgM_tup, tgMs_nil, tgMs_cons, Option.bind_some, wp_bind, wp_ok, Src.size, wip, asL, lim_v, List.set_cons_succ, List.set_cons_zero, List.getElem?_cons_zero, List.getElem?_cons_succ, gPlus, gAdd, mEq, datE_bl, datE_int, datE_str, datE_non, dp_ii, dp_bb, dp_ss, dp_ni, dp_in, ev_ii, ev_bb, ev_ss, ev_ni, ev_in, Bool.false_eq_true, if_false, reduceIte, reduceCtorEq, decide_true, decide_false, eq_self, c9, mOr, mTst, gCmp, c2, cd2, gIx, hL4, at0_, cl2]
  by_cases c6 : 6 < i1
  · obtain ⟨e1, e2, e3, e4⟩ := hset (l - 1)
    have hnl : (nms.map Val.str).length = nms.length := List.length_map ..
    simp only [List.length_cons, List.length_nil, List.map_cons, List.map_nil, Nat.zero_add, Nat.reduceAdd, Nat.reduceSub, Nat.reduceLeDiff, List.replicate, List.cons_append, List.nil_append, if_true, ite_true, and_self, true_and, sSeq, sAsg, sRet, sIf, sNx, sExp, mC, mOp, mUn, mVar, mCall, mCons, mNil, mLst, mTup, mNew, mSl, mNoPart, mPart, mJoin, mLc, mRng1, mRng2, tgM_name, tgM_tup, tgMs_nil, tgMs_cons, Option.bind_some, wp_bind, wp_ok, Src.size, wip, asL, lim_v, List.set_cons_succ, List.set_cons_zero, List.getElem?_cons_zero, List.getElem?_cons_succ, gPlus, gAdd, mEq, datE_bl, datE_int, datE_str, datE_non, dp_ii, dp_bb, dp_ss, dp_ni, dp_in, ev_ii, ev_bb, ev_ss, ev_ni, ev_in, Bool.false_eq_true, if_false, reduceIte, reduceCtorEq, decide_true, decide_false, eq_self, c6, sSub, gIx, hL4, at0_, gSub, i10, one, gLen, e3, hnl]
    refine (dr (d' + 1 + k + 2)).go e1 (by omega) (by omega) (by omega) fun i5 S5 g5 h5 d5 k5 => ?_
    have hN5 : S5[Nm]? = some (.lst (nms.map Val.str)) := by rw [k5.get _ (get_lt e3) n1 n2]; exact e3
    have hL5 : S5[L]? = some (.lst [.int ((l - 1 : Nat) : Int)]) := by rw [k5.get _ (get_lt e2) L1 L2]; exact e2
    obtain ⟨x, hx, ex⟩ := ix_loc hN5 g5 (by rw [hnl]; exact h5)
    obtain ⟨nm, hnm2, rfl⟩ := List.mem_map.mp hx
    simp only [gIx] at ex
    simp only [List.length_cons, List.length_nil, List.map_cons, List.map_nil, Nat.zero_add, Nat.reduceAdd, Nat.reduceSub, Nat.reduceLeDiff, List.replicate, List.cons_append, List.nil_append, if_true, ite_true, and_self, true_and, sSeq, sAsg, sRet, sIf, sNx, sExp, mC, mOp, mUn, mVar, mCall, mCons, mNil, mLst, mTup, mNew, mSl, mNoPart, mPart, mJoin, mLc, mRng1, mRng2, tgM_name, tgM_tup, tgMs_nil, tgMs_cons, Option.bind_some, wp_bind, wp_ok, Src.size, wip, asL, lim_v, List.set_cons_succ, List.set_cons_zero, List.getElem?_cons_zero, List.getElem?_cons_succ, gPlus, gAdd, ex, z1]
    rw [lv]
    refine Wp.mono (ih S5 _ (l - 1) d5 hL5 hN5 (by omega) (by omega)) fun v S6 ⟨⟨p, l', e, f1, f2, f3⟩, f4, f5⟩ => ?_
    subst e
    exact fo_of (p := .mark nm p) ⟨by rw [NF]; exact ⟨hnm nm hnm2, f1.1⟩, (fun z hz => by
      rw [mkP] at hz
      rcases List.mem_append.mp hz with hz | hz
      · exact f1.2.1 z hz
      · rw [List.mem_singleton.mp hz]; exact hnm2), by rw [dep]; have := f1.2.2; omega⟩ f2 (by rw [sz]; omega) (f4.le (by omega)) (e4.trans ((kq_of k5).trans f5))
  by_cases c4 : 4 < i1
  · obtain ⟨e1, e2, e3, e4⟩ := hset (l - 1)
    simp only [List.length_cons, List.length_nil, List.map_cons, List.map_nil, Nat.zero_add, Nat.reduceAdd, Nat.reduceSub, Nat.reduceLeDiff, List.replicate, List.cons_append, List.nil_append, if_true, ite_true, and_self, true_and, sSeq, sAsg, sRet, sIf, sNx, sExp, mC, mOp, mUn, mVar, mCall, mCons, mNil, mLst, mTup, mNew, mSl, mNoPart, mPart, mJoin, mLc, mRng1, mRng2, tgM_name, tgM_tup, tgMs_nil, tgMs_cons, Option.bind_some, wp_bind, wp_ok, Src.size, wip, asL, lim_v, List.set_cons_succ, List.set_cons_zero, List.getElem?_cons_zero, List.getElem?_cons_succ, gPlus, gAdd, mEq, datE_bl, datE_int, datE_str, datE_non, dp_ii, dp_bb, dp_ss, dp_ni, dp_in, ev_ii, ev_bb, ev_ss, ev_ni, ev_in, Bool.false_eq_true, if_false, reduceIte, reduceCtorEq, decide_true, decide_false, eq_self, c6, c4, sSub, gIx, hL4, at0_, at1_, gSub, i10, one, z1]
    rw [lv]
    refine Wp.mono (ih _ _ (l - 1) e1 e2 e3 (by omega) (by omega)) fun v S6 ⟨⟨p, l', e, f1, f2, f3⟩, f4, f5⟩ => ?_
    subst e
    exact fo_of (p := .some lo hi p) ⟨by rw [NF]; exact ⟨hlh, f1.1⟩, (fun z hz => f1.2.1 z (by rw [mkP] at hz; exact hz)), by rw [dep]; have := f1.2.2; omega⟩ f2 (by rw [sz]; omega) (f4.le (by omega)) (e4.trans f5)
  · obtain ⟨e1, e2, e3, e4⟩ := hset (l - b)
    have onb : ((l : Int) - (b : Int)) = ((l - b : Nat) : Int) := by omega
    have w26 : ((0 : Int) < 2) = True := eq_true (by decide)
    have f4 : ((b : Int).natAbs ≤ 100000) = True := eq_true (by omega)
    have f5 : (b : Int).toNat = b := by omega
    have f6 : (upTo 0 b).length = b := upTo_len
    obtain ⟨W, hW, hWi⟩ : ∃ W, (W = cs "row" ∨ W = cs "any") ∧ atI [Val.str (cs "row"), Val.str (cs "any")] (i1 % 2) = some (.str W) := by
      have : i1 % 2 = 0 ∨ i1 % 2 = 1 := by omega
      rcases this with h | h
      · exact ⟨_, .inl rfl, by rw [h, at0_]⟩
      · exact ⟨_, .inr rfl, by rw [h, at1_]⟩
    simp only [List.length_cons, List.length_nil, List.map_cons, List.map_nil, Nat.zero_add, Nat.reduceAdd, Nat.reduceSub, Nat.reduceLeDiff, List.replicate, List.cons_append, List.nil_append, if_true, ite_true, and_self, true_and, sSeq, sAsg, sRet, sIf, sNx, sExp, mC, mOp, mUn, mVar, mCall, mCons, mNil, mLst, mTup, mNew, mSl, mNoPart, mPart, mJoin, mLc, mRng1, mRng2, tgM_name, tgM_tup, tgMs_nil, tgMs_cons, Option.bind_some, wp_bind, wp_ok, Src.size, wip, asL, lim_v, List.set_cons_succ, List.set_cons_zero, List.getElem?_cons_zero, List.getElem?_cons_succ, gPlus, gAdd, mEq, datE_bl, datE_int, datE_str, datE_non, dp_ii, dp_bb, dp_ss, dp_ni, dp_in, ev_ii, ev_bb, ev_ss, ev_ni, ev_in, Bool.false_eq_true, if_false, reduceIte, reduceCtorEq, decide_true, decide_false, eq_self, c6, c4, sSub, gIx, hL4, at0_, gSub, i10, onb, gMod, w26, app_new, hWi, f4, f5, f6]
    rw [lv]
    have hm4 : m + 33 + b * cF d' ≤ 2 ^ 39 := by
      have : b * cF d' ≤ 4 * cF d' := Nat.mul_le_mul_right _ hb2
      omega
    have pd := fun env h0 h1 h2 h3 => parts_drawn (D := D) (C := C) (m := m + 33) (N := d' + k + 4) (d := d') (c := cF d') (L := L) (Nm := Nm) (r := b) (l := l - b) (S0 := S4.set L (.lst [.int ((l - b : Nat) : Int)]) ++ [.lst [.str (cs "row"), .str (cs "any")]]) (env := env) h0 h1 h2 h3 hb2 e1.app (app_get e2) (app_get e3) n1 n2 n3 hm4 (by omega) ih
    refine Wp.mono (pd _ rfl rfl rfl rfl) fun ys S5 ⟨ps, l', e, p1, p2, p3, p4, p5⟩ => ?_
    subst e
    obtain ⟨bb, rfl⟩ : ∃ bb : Bool, W = wd bb := by
      rcases hW with h | h
      · exact ⟨true, h⟩
      · exact ⟨false, h⟩
    have fl := flat_ok (n := d' + k + 3) (q0 := S5.length) (S := S5 ++ [.lst (encs ps)]) (ps := ps) bb app_new (by omega)
    refine Wp.mono fl ?_
    intro v S6 h6
    obtain ⟨q, e, q1, q2, q3⟩ := h6
    subst e
    have q5 := szs_spr bb ps
    have q6 := nf_spr (b := bb) fun f hf => (p1 f hf).1
    have q4 : ∀ p ∈ spr bb ps, PN nms (d' + 1) p := fun p hp => by
      obtain ⟨q, hq, h1, h2⟩ := spr_from hp
      exact ⟨(q6 p hp).1, fun z hz => (p1 q hq).2.1 z (h2 z hz), Nat.le_trans h1 (p1 q hq).2.2⟩
    obtain ⟨ps2, hps2⟩ : ∃ ps2, spr bb ps = ps2 := ⟨_, rfl⟩
    rw [hps2] at q2 q4 q5 q6
    clear hps2 hWi fl pd p1
    have hps := szs_len ps2
    have d6 : Dk S6 D C (m + 33 + b * cF d') := q3.dk p4.app
    have k6 : Kq S S6 D C L := ((e4.app).trans p5).trans ((kq_of Kp.app).trans q3.kq)
    have hL6 : S6[L]? = some (.lst [.int (l' : Nat)]) := q3.get (app_get p2)
    have hbc : b * cF d' ≤ 4 * cF d' := Nat.mul_le_mul_right _ hb2
    have d6' : Dk S6 D C (m + cF (d' + 1)) := d6.le (by omega)
    have hpu := pure_encs ps2
    by_cases h1 : ps2.length = 1
    · obtain ⟨p, rfl⟩ := List.length_eq_one_iff.mp h1
      have e1 : encs [p] = [enc p] := rfl
      have i1 : (((1 : Nat) : Int) = 1) = True := eq_true rfl
      rw [e1] at q2
      simp only [List.length_cons, List.length_nil, List.map_cons, List.map_nil, Nat.zero_add, Nat.reduceAdd, Nat.reduceSub, Nat.reduceLeDiff, List.replicate, List.cons_append, List.nil_append, if_true, ite_true, and_self, true_and, sSeq, sAsg, sRet, sIf, sNx, sExp, mC, mOp, mUn, mVar, mCall, mCons, mNil, mLst, mTup, mNew, mSl, mNoPart, mPart, mJoin, mLc, mRng1, mRng2, tgM_name, tgM_tup, tgMs_nil, tgMs_cons, Option.bind_some, wp_bind, wp_ok, Src.size, wip, asL, lim_v, List.set_cons_succ, List.set_cons_zero, List.getElem?_cons_zero, List.getElem?_cons_succ, gPlus, gAdd, mEq, datE_bl, datE_int, datE_str, datE_non, dp_ii, dp_bb, dp_ss, dp_ni, dp_in, ev_ii, ev_bb, ev_ss, ev_ni, ev_in, Bool.false_eq_true, if_false, reduceIte, reduceCtorEq, decide_true, decide_false, eq_self, gLen, q2, gIx, at0_, i1]
      have := q4 p List.mem_cons_self
      exact fo_of (l' := l') ⟨this.1, this.2.1, Nat.le_succ_of_le this.2.2⟩ hL6 (by rw [szs, szs] at q5; omega) d6' k6
    · have h1F : (((encs ps2).length : Int) = 1) = False := eq_false (by rw [encs_len]; omega)
      have hle : ((encs ps2).length ≤ 100000) = True := eq_true (by rw [encs_len]; omega)
      simp only [List.length_cons, List.length_nil, List.map_cons, List.map_nil, Nat.zero_add, Nat.reduceAdd, Nat.reduceSub, Nat.reduceLeDiff, List.replicate, List.cons_append, List.nil_append, if_true, ite_true, and_self, true_and, sSeq, sAsg, sRet, sIf, sNx, sExp, mC, mOp, mUn, mVar, mCall, mCons, mNil, mLst, mTup, mNew, mSl, mNoPart, mPart, mJoin, mLc, mRng1, mRng2, tgM_name, tgM_tup, tgMs_nil, tgMs_cons, Option.bind_some, wp_bind, wp_ok, Src.size, wip, asL, lim_v, List.set_cons_succ, List.set_cons_zero, List.getElem?_cons_zero, List.getElem?_cons_succ, gPlus, gAdd, mEq, datE_bl, datE_int, datE_str, datE_non, dp_ii, dp_bb, dp_ss, dp_ni, dp_in, ev_ii, ev_bb, ev_ss, ev_ni, ev_in, Bool.false_eq_true, if_false, reduceIte, reduceCtorEq, decide_true, decide_false, eq_self, gLen, q2, h1F, mAnd, datE_loc q2 hpu, datL_nil, dep_nil, eqv_nil, dvs_emp]
      have hd2 := deps_le fun p hp => (q4 p hp).2.2
      have hnn := mkPs_sub fun p hp => (q4 p hp).2.1
      cases bb with
      | true =>
        cases ps2 with
        | nil =>
          have q2' : S6[q]? = some (.lst []) := q2
          have eE : (encs []).isEmpty = true := rfl
          simp only [wd, List.length_cons, List.length_nil, List.map_cons, List.map_nil, Nat.zero_add, Nat.reduceAdd, Nat.reduceSub, Nat.reduceLeDiff, List.replicate, List.cons_append, List.nil_append, if_true, ite_true, and_self, true_and, sSeq, sAsg, sRet, sIf, sNx, sExp, mC, mOp, mUn, mVar, mCall, mCons, mNil, mLst, mTup, mNew, mSl, mNoPart, mPart, mJoin, mLc, mRng1, mRng2, tgM_name, tgM_tup, tgMs_nil, tgMs_cons, Option.bind_some, wp_bind, wp_ok, Src.size, wip, asL, lim_v, List.set_cons_succ, List.set_cons_zero, List.getElem?_cons_zero, List.getElem?_cons_succ, gPlus, gAdd, mEq, datE_bl, datE_int, datE_str, datE_non, dp_ii, dp_bb, dp_ss, dp_ni, dp_in, ev_ii, ev_bb, ev_ss, ev_ni, ev_in, Bool.false_eq_true, if_false, reduceIte, reduceCtorEq, decide_true, decide_false, eq_self, ne_sign_row, ne_sign_any, ne_sign_some, ne_sign_mark, ne_row_sign, ne_row_any, ne_row_some, ne_row_mark, ne_any_sign, ne_any_row, ne_any_some, ne_any_mark, ne_some_sign, ne_some_row, ne_some_any, ne_some_mark, ne_mark_sign, ne_mark_row, ne_mark_any, ne_mark_some, eE, gTup, q2']
          exact fo_of (p := .row []) (l' := l') ⟨by rw [NF, NFs]; exact ⟨trivial, by simp⟩, hnn, by rw [dep]; omega⟩ hL6 (by rw [sz]; omega) d6' k6
        | cons p ps3 =>
          have eE : (encs (p :: ps3)).isEmpty = false := rfl
          simp only [wd, List.length_cons, List.length_nil, List.map_cons, List.map_nil, Nat.zero_add, Nat.reduceAdd, Nat.reduceSub, Nat.reduceLeDiff, List.replicate, List.cons_append, List.nil_append, if_true, ite_true, and_self, true_and, sSeq, sAsg, sRet, sIf, sNx, sExp, mC, mOp, mUn, mVar, mCall, mCons, mNil, mLst, mTup, mNew, mSl, mNoPart, mPart, mJoin, mLc, mRng1, mRng2, tgM_name, tgM_tup, tgMs_nil, tgMs_cons, Option.bind_some, wp_bind, wp_ok, Src.size, wip, asL, lim_v, List.set_cons_succ, List.set_cons_zero, List.getElem?_cons_zero, List.getElem?_cons_succ, gPlus, gAdd, mEq, datE_bl, datE_int, datE_str, datE_non, dp_ii, dp_bb, dp_ss, dp_ni, dp_in, ev_ii, ev_bb, ev_ss, ev_ni, ev_in, Bool.false_eq_true, if_false, reduceIte, reduceCtorEq, decide_true, decide_false, eq_self, ne_sign_row, ne_sign_any, ne_sign_some, ne_sign_mark, ne_row_sign, ne_row_any, ne_row_some, ne_row_mark, ne_any_sign, ne_any_row, ne_any_some, ne_any_mark, ne_some_sign, ne_some_row, ne_some_any, ne_some_mark, ne_mark_sign, ne_mark_row, ne_mark_any, ne_mark_some, eE, gTup, q2]
          exact fo_of (p := .row (p :: ps3)) (l' := l') ⟨by rw [NF, NFs_iff]; exact ⟨q6, h1⟩, hnn, by rw [dep]; omega⟩ hL6 (by rw [sz]; omega) d6' k6
      | false =>
        cases ps2 with
        | nil =>
          have eE : (encs []).isEmpty = true := rfl
          simp only [wd, List.length_cons, List.length_nil, List.map_cons, List.map_nil, Nat.zero_add, Nat.reduceAdd, Nat.reduceSub, Nat.reduceLeDiff, List.replicate, List.cons_append, List.nil_append, if_true, ite_true, and_self, true_and, sSeq, sAsg, sRet, sIf, sNx, sExp, mC, mOp, mUn, mVar, mCall, mCons, mNil, mLst, mTup, mNew, mSl, mNoPart, mPart, mJoin, mLc, mRng1, mRng2, tgM_name, tgM_tup, tgMs_nil, tgMs_cons, Option.bind_some, wp_bind, wp_ok, Src.size, wip, asL, lim_v, List.set_cons_succ, List.set_cons_zero, List.getElem?_cons_zero, List.getElem?_cons_succ, gPlus, gAdd, mEq, datE_bl, datE_int, datE_str, datE_non, dp_ii, dp_bb, dp_ss, dp_ni, dp_in, ev_ii, ev_bb, ev_ss, ev_ni, ev_in, Bool.false_eq_true, if_false, reduceIte, reduceCtorEq, decide_true, decide_false, eq_self, ne_sign_row, ne_sign_any, ne_sign_some, ne_sign_mark, ne_row_sign, ne_row_any, ne_row_some, ne_row_mark, ne_any_sign, ne_any_row, ne_any_some, ne_any_mark, ne_some_sign, ne_some_row, ne_some_any, ne_some_mark, ne_mark_sign, ne_mark_row, ne_mark_any, ne_mark_some, eE]
          exact fo_of (p := .sign z) (l' := l') ⟨by rw [NF]; exact hz, (fun _ h => by rw [mkP] at h; cases h), by rw [dep]; omega⟩ hL6 (by rw [sz]; omega) d6' k6
        | cons p ps3 =>
          have eE : (encs (p :: ps3)).isEmpty = false := rfl
          simp only [wd, List.length_cons, List.length_nil, List.map_cons, List.map_nil, Nat.zero_add, Nat.reduceAdd, Nat.reduceSub, Nat.reduceLeDiff, List.replicate, List.cons_append, List.nil_append, if_true, ite_true, and_self, true_and, sSeq, sAsg, sRet, sIf, sNx, sExp, mC, mOp, mUn, mVar, mCall, mCons, mNil, mLst, mTup, mNew, mSl, mNoPart, mPart, mJoin, mLc, mRng1, mRng2, tgM_name, tgM_tup, tgMs_nil, tgMs_cons, Option.bind_some, wp_bind, wp_ok, Src.size, wip, asL, lim_v, List.set_cons_succ, List.set_cons_zero, List.getElem?_cons_zero, List.getElem?_cons_succ, gPlus, gAdd, mEq, datE_bl, datE_int, datE_str, datE_non, dp_ii, dp_bb, dp_ss, dp_ni, dp_in, ev_ii, ev_bb, ev_ss, ev_ni, ev_in, Bool.false_eq_true, if_false, reduceIte, reduceCtorEq, decide_true, decide_false, eq_self, ne_sign_row, ne_sign_any, ne_sign_some, ne_sign_mark, ne_row_sign, ne_row_any, ne_row_some, ne_row_mark, ne_any_sign, ne_any_row, ne_any_some, ne_any_mark, ne_some_sign, ne_some_row, ne_some_any, ne_some_mark, ne_mark_sign, ne_mark_row, ne_mark_any, ne_mark_some, eE, gTup, q2]
          exact fo_of (p := .any (p :: ps3)) (l' := l') ⟨by rw [NF, NFs_iff]; exact ⟨q6, by rw [List.length_cons] at h1 ⊢; omega⟩, hnn, by rw [dep]; omega⟩ hL6 (by rw [sz]; omega) d6' k6
theorem form_ok {L Nm k : Nat} {nms : List (List Nat)} (hn : 0 < nms.length) (hn2 : nms.length ≤ 10) (hnm : ∀ z ∈ nms, OkN z) (L1 : L ≠ D) (L2 : L ≠ C) (n1 : Nm ≠ D) (n2 : Nm ≠ C) (n3 : Nm ≠ L) : ∀ d, FormAt D C L Nm nms k d
  | 0 => form_step hn hn2 hnm L1 L2 n1 n2 n3 fun _ h => by omega
  | d + 1 => form_step hn hn2 hnm L1 L2 n1 n2 n3 fun d' h => by
    have : d' = d := by omega
    subst this
    exact form_ok hn hn2 hnm L1 L2 n1 n2 n3 d'
end
end Mx.K07

set_option linter.all false
set_option maxRecDepth 100000
set_option maxHeartbeats 4000000
namespace Mx.K07
open Mx L2 PySem
/-! ### what repr shows of a pattern -/
theorem sg_short : ∀ c ∈ sg, c < 16 ^ 8 := by decide +kernel
theorem lt_short : ∀ c ∈ cs "abcdefghijklmnopqrstuvwxyz", c < 16 ^ 8 := by decide +kernel
theorem wd0_in (p : Pat) : wd0 p ∈ [cs "sign", cs "row", cs "any", cs "some", cs "mark"] := by cases p <;> simp [wd0]
theorem w_shorts : ∀ w ∈ [cs "sign", cs "row", cs "any", cs "some", cs "mark"], (PyData.str ⟨w.toArray⟩).leavesShort 13 = true ∧ w.length ≤ 4 := by decide +kernel
theorem w_short (p : Pat) : (PyData.str ⟨(wd0 p).toArray⟩).leavesShort 13 = true := (w_shorts _ (wd0_in p)).1
theorem w_bulk (p : Pat) : (wd0 p).length ≤ 4 := (w_shorts _ (wd0_in p)).2
theorem str_short {z : List Nat} (h : ∀ c ∈ z, c < 16 ^ 8) : (PyData.str ⟨z.toArray⟩).leavesShort 13 = true := by
  rw [PyData.leavesShort]
  exact List.all_eq_true.mpr fun c hc => decide_eq_true (h c hc)
structure Shw (d : PyData) (D B : Nat) : Prop where
  s : d.showable = true
  h : d.hasDict = false
  dp : d.depth ≤ D
  l : d.leavesShort 13 = true
  b : d.bulk + 1 ≤ B
structure Shws (ds : List PyData) (D B : Nat) : Prop where
  s : PyData.showableAll ds = true
  h : PyData.hasDictAll ds = false
  dp : PyData.depthAll ds ≤ D
  l : PyData.leavesShortAll 13 ds = true
  b : PyData.bulkAll ds ≤ B
theorem Shws.nil {D B : Nat} : Shws [] D B := ⟨rfl, rfl, Nat.zero_le _, rfl, Nat.zero_le _⟩
theorem Shws.cons {d : PyData} {ds : List PyData} {D B C A : Nat} (h : Shw d D B) (k : Shws ds D C) (e : B + C ≤ A) : Shws (d :: ds) D A :=
  ⟨by rw [PyData.showableAll, h.s, k.s]; rfl, by rw [PyData.hasDictAll, h.h, k.h]; rfl, by rw [PyData.depthAll]; exact Nat.max_le.mpr ⟨h.dp, k.dp⟩, by rw [PyData.leavesShortAll, h.l, k.l]; rfl, by rw [PyData.bulkAll]; have := h.b; have := k.b; omega⟩
theorem Shws.tup {ds : List PyData} {D B A : Nat} (k : Shws ds D B) (e : B + 1 ≤ A) : Shw (.tuple ds) (D + 1) A :=
  ⟨by rw [PyData.showable]; exact k.s, by rw [PyData.hasDict]; exact k.h, by rw [PyData.depth]; exact Nat.succ_le_succ k.dp, by rw [PyData.leavesShort]; exact k.l, by rw [PyData.bulk]; have := k.b; omega⟩
theorem Shw.str {z : List Nat} {D B : Nat} (h : ∀ c ∈ z, c < 16 ^ 8) (e : z.length + 1 ≤ B) : Shw (.str ⟨z.toArray⟩) D B :=
  ⟨rfl, rfl, Nat.zero_le _, str_short h, by show z.toArray.size + 1 ≤ B; rw [List.size_toArray]; exact e⟩
theorem Shw.wd (p : Pat) {D B : Nat} (e : 5 ≤ B) : Shw (.str ⟨(wd0 p).toArray⟩) D B :=
  ⟨rfl, rfl, Nat.zero_le _, w_short p, by show (wd0 p).toArray.size + 1 ≤ B; rw [List.size_toArray]; have := w_bulk p; omega⟩
theorem Shw.mono {d : PyData} {D B D' B' : Nat} (h : Shw d D B) (hD : D ≤ D') (hB : B ≤ B') : Shw d D' B' := ⟨h.s, h.h, Nat.le_trans h.dp hD, h.l, Nat.le_trans h.b hB⟩
theorem Shws.mono {d : List PyData} {D B D' B' : Nat} (h : Shws d D B) (hD : D ≤ D') (hB : B ≤ B') : Shws d D' B' := ⟨h.s, h.h, Nat.le_trans h.dp hD, h.l, Nat.le_trans h.b hB⟩
theorem Shw.i0 {D B : Nat} (e : 1 ≤ B) : Shw (.int 0) D B := ⟨by decide, rfl, Nat.zero_le _, by decide, e⟩
theorem Shw.i1 {D B : Nat} (e : 1 ≤ B) : Shw (.int 1) D B := ⟨by decide, rfl, Nat.zero_le _, by decide, e⟩
theorem Shw.no {D B : Nat} (e : 1 ≤ B) : Shw .none D B := ⟨rfl, rfl, Nat.zero_le _, rfl, e⟩
mutual
theorem shw_enc : ∀ p, NF p → Shw (dv (enc p)) (2 * dep p) (40 * sz p)
  | .sign z, h => by
    rw [NF] at h
    obtain ⟨h1, h2⟩ := sg_z h.2
    have k : Shws [PyData.str ⟨(wd0 (.sign z)).toArray⟩, .str ⟨z.toArray⟩] 1 33 := .cons (B := 5) (C := 28) (.wd _ (by omega)) (.cons (B := 28) (C := 0) (.str (fun c hc => sg_short c (h1 c hc)) (by omega)) .nil (by omega)) (by omega)
    have := k.tup (A := 40) (by omega)
    rw [dep, sz]
    exact this
  | .row ps, h => by
    rw [NF] at h
    have k := shws_enc ps h.1
    have t := k.tup (A := 40 * szs ps + 1) (by omega)
    have k2 : Shws [PyData.str ⟨(wd0 (.row ps)).toArray⟩, .tuple (dvs (encs ps))] (2 * deps ps + 1) (40 * szs ps + 6) := .cons (B := 5) (C := 40 * szs ps + 1) (.wd _ (by omega)) (.cons (C := 0) t .nil (by omega)) (by omega)
    have := k2.tup (A := 40 * (szs ps + 1)) (by omega)
    rw [dep, sz]
    exact this.mono (by omega) (by omega)
  | .any ps, h => by
    rw [NF] at h
    have k := shws_enc ps h.1
    have t := k.tup (A := 40 * szs ps + 1) (by omega)
    have k2 : Shws [PyData.str ⟨(wd0 (.any ps)).toArray⟩, .tuple (dvs (encs ps))] (2 * deps ps + 1) (40 * szs ps + 6) := .cons (B := 5) (C := 40 * szs ps + 1) (.wd _ (by omega)) (.cons (C := 0) t .nil (by omega)) (by omega)
    have := k2.tup (A := 40 * (szs ps + 1)) (by omega)
    rw [dep, sz]
    exact this.mono (by omega) (by omega)
  | .some lo hi p, h => by
    rw [NF] at h
    have k := shw_enc p h.2
    have hl : Shw (dv (.int (lo : Nat))) (2 * dep p) 1 := by
      rcases h.1 with ⟨rfl, _⟩ | ⟨rfl, _⟩ | ⟨rfl, _⟩
      · exact .i0 (by omega)
      · exact .i0 (by omega)
      · exact .i1 (by omega)
    have hh : Shw (dv (if hi then .int 1 else .non)) (2 * dep p) 1 := by
      cases hi
      · exact .no (by omega)
      · exact .i1 (by omega)
    have k2 : Shws [PyData.str ⟨(wd0 (.some lo hi p)).toArray⟩, dv (.int (lo : Nat)), dv (if hi then .int 1 else .non), dv (enc p)] (2 * dep p) (40 * sz p + 7) := .cons (B := 5) (C := 40 * sz p + 2) (.wd _ (by omega)) (.cons (C := 40 * sz p + 1) hl (.cons (C := 40 * sz p) hh (.cons (C := 0) k .nil (by omega)) (by omega)) (by omega)) (by omega)
    have := k2.tup (A := 40 * (sz p + 1)) (by omega)
    rw [dep, sz, enc_some]
    exact this.mono (by omega) (by omega)
  | .mark nm p, h => by
    rw [NF] at h
    obtain ⟨h1, h2, h3⟩ := h.1
    have k := shw_enc p h.2
    have k2 : Shws [PyData.str ⟨(wd0 (.mark nm p)).toArray⟩, .str ⟨nm.toArray⟩, dv (enc p)] (2 * dep p) (40 * sz p + 14) := .cons (B := 5) (C := 40 * sz p + 9) (.wd _ (by omega)) (.cons (B := 9) (C := 40 * sz p) (.str (fun c hc => lt_short c (h3 c hc)) (by omega)) (.cons (C := 0) k .nil (by omega)) (by omega)) (by omega)
    have := k2.tup (A := 40 * (sz p + 1)) (by omega)
    rw [dep, sz, enc_mark]
    exact this.mono (by omega) (by omega)
theorem shws_enc : ∀ {b : Bool} (ps : List Pat), NFs b ps → Shws (dvs (encs ps)) (2 * deps ps) (40 * szs ps)
  | _, [], _ => .nil
  | b, p :: ps, h => by
    rw [NFs] at h
    have k := (shw_enc p h.1.1).mono (D' := 2 * deps (p :: ps)) (B' := 40 * sz p) (by rw [deps]; omega) (Nat.le_refl _)
    have k2 := (shws_enc ps h.2).mono (D' := 2 * deps (p :: ps)) (B' := 40 * szs ps) (by rw [deps]; omega) (Nat.le_refl _)
    rw [szs]
    exact .cons k k2 (by omega)
end
theorem enc_tup (p : Pat) : ∃ xs, enc p = .tup xs := by cases p <;> exact ⟨_, rfl⟩
theorem repr_ok {p : Pat} (h : NF p) (hd : dep p ≤ 30) (hz : sz p ≤ 1000) : ∃ t, ∀ S, gRepr (enc p) S = .ok (.str t) S := by
  have k := shw_enc p h
  have ok : okR (dv (enc p)) = true := by
    unfold okR
    rw [k.s, k.h, decide_eq_true (show (dv (enc p)).depth ≤ 60 by have := k.dp; omega), decide_eq_true (PyData.shown_fits_bulk (by decide) (by decide) k.l (by have := k.b; have : (2 : Nat) ^ 20 = 1048576 := (by decide); omega))]
    rfl
  obtain ⟨xs, e⟩ := enc_tup p
  refine ⟨(dv (enc p)).shown.cps.toList, fun S => ?_⟩
  have hp := datE_pure (S := S) (pure_enc p)
  rw [e] at hp ok ⊢
  simp only [gRepr, hp, ok, if_true]
/-! ### written, once more -/
section
variable {S : Sto} {n : Nat}
theorem joinL_e : ∀ ps : List Pat, TL.joinL [] (ps.map fun p => brk (isK false p) (wr p)) = wrR ps := fun ps => by rw [joinL_nil, wrR_flat]
/-- what stands for a part -/
def prt (r : Bool) (p : Pat) : List Nat := brk (r && isK false p) (wr p)
theorem prt_len {r : Bool} {p : Pat} (h : NF p) : (prt r p).length + 1 ≤ 40 * sz p := by
  have := wr_len p h
  have := brk_len (r && isK false p) (wr p)
  unfold prt
  omega
theorem prt_sum {r b : Bool} : ∀ ps : List Pat, NFs b ps → ((ps.map (prt r)).map List.length).sum + ps.length ≤ 40 * szs ps
  | [], _ => by simp
  | p :: ps, h => by
    rw [NFs] at h
    have := prt_sum (r := r) ps h.2
    have := prt_len (r := r) h.1.1
    rw [List.map_cons, List.map_cons, List.sum_cons, szs, List.length_cons]
    omega
theorem wd_tst {p : Pat} {a : List Nat} {i : Nat} {env : Ev} {S : Sto} (h : env[i]? = some (some (enc p))) : mEq false datE datE (mOp gIx (mVar i) (mC (.int 0))) (mC (.str a)) env S = .ok (decide (wd0 p = a)) S := by
  simp only [mEq, mOp, mC, mVar, h, wp_bind, Out.bind, ix0, datE_str, dp_ss, ev_ss, if_true, Bool.false_eq_true, if_false]
theorem written_ok : ∀ d k p S, dep p ≤ d → NF p → sz p ≤ 1000 → Wx (Fn (d + k + 1) 61 [enc p] S) S (· = .str (wr p))
  | 0, k, p, S, hd, _, _ => by have := dep_pos p; omega
  | d + 1, k, p, S, hd, hn, hz => by
    have lw : ∀ q, dep q ≤ d → NF q → sz q ≤ 1000 → ∀ S, Wx (Fn (d + 1 + k) 61 [enc q] S) S (· = .str (wr q)) := fun q h1 h2 h3 S => by
      have := written_ok d k q S h1 h2 h3
      rw [show d + k + 1 = d + 1 + k by omega] at this
      exact this
    rw [fn__law_written]
    refine wx_trm ?_
    unfold Wx
    refine wp_runF rfl ?_
    unfold b__law_written
    have hlen := wr_len p hn
    have sk : ∀ {a : List Nat} {b rest : SM} {env : Ev} {S : Sto} {Q : Fl × Ev → Sto → Prop}, env[0]? = some (some (enc p)) → a ≠ wd0 p → Wp (rest env S) Q → Wp (sSeq (sIf (mEq false datE datE (mOp gIx (mVar 0) (mC (.int 0))) (mC (.str a))) b sNx) rest env S) Q := fun {a b rest env S Q} h1 h2 h3 => by
      exact wp_skip (by rw [wd_tst h1]; exact ⟨decide_eq_false (Ne.symm h2), rfl⟩) h3
    have tk : ∀ {a : List Nat} {b rest : SM} {env : Ev} {S : Sto} {Q : Fl × Ev → Sto → Prop}, env[0]? = some (some (enc p)) → wd0 p = a → Wp (b env S) (fun r S1 => ∃ v e, r = (.rt v, e) ∧ Q (.rt v, e) S1) → Wp (sSeq (sIf (mEq false datE datE (mOp gIx (mVar 0) (mC (.int 0))) (mC (.str a))) b sNx) rest env S) Q := fun {a b rest env S Q} h1 h2 h3 =>
      wp_take (by rw [wd_tst h1]; exact ⟨decide_eq_true h2, rfl⟩) h3
    -- rows and anys
    have many : ∀ (r : Bool) (ps : List Pat) (S : Sto), enc p = .tup [.str (wd0 p), .tup (encs ps)] → wd0 p = wd r → NFs r ps → (∀ q ∈ ps, dep q ≤ d) → szs ps ≤ 999 → (TL.joinL (if r then [] else [124]) (ps.map (prt r)) = wr p) →
        Wp ((sSeq (sAsg (.name 2) (mNew (mLst mNil)))
          (sSeq (sFor (mSrc (mOp gIx (mVar 0) (mC (.int 1)))) (.name 3) (sSeq (sAsg (.name 4) (mCall (Fn (d + 1 + k) 61) (mCons (mVar 3) mNil)))
          (sSeq (sIf (mAnd (mEq false datE datE (mOp gIx (mVar 0) (mC (.int 0))) (mC (.str (cs "row")))) (mEq false datE datE (mOp gIx (mVar 3) (mC (.int 0))) (mC (.str (cs "any"))))) (sAsg (.name 4) (mOp gPlus (mOp gPlus (mC (.str (cs "("))) (mVar 4)) (mC (.str (cs ")"))))) sNx)
          (sApp (mVar 2) (mVar 4)))))
          (sRet (mJoin asE (mOp gIx (mNew (mLst (mCons (mC (.str (cs ""))) (mCons (mC (.str (cs "|"))) mNil)))) (mUn gInt (mBl (mEq false datE datE (mOp gIx (mVar 0) (mC (.int 0))) (mC (.str (cs "any"))))))) (mVar 2))))) [some (enc p), none, none, none, none] S)
          fun z S' => (∃ v e, z = (.rt v, e) ∧ (v = .str (wr p) ∧ Ext S S')) ∨ (∃ e, z = (.nx, e) ∧ (Val.non = .str (wr p) ∧ Ext S S')) := fun r ps S ep ew hns hds hzs hj => by
      have hl := szs_len ps
      refine wp_asgL (Wp.mono (Q := fun xs S1 => xs = [] ∧ S1 = S) (by simp only [List.length_cons, List.length_nil, List.map_cons, List.map_nil, Nat.zero_add, Nat.reduceAdd, Nat.reduceSub, Nat.reduceLeDiff, List.replicate, List.cons_append, List.nil_append, if_true, ite_true, and_self, true_and, sSeq, sAsg, sRet, sIf, sNx, sExp, mC, mOp, mUn, mVar, mCall, mCons, mNil, mLst, mTup, mNew, mSl, mNoPart, mPart, mJoin, mLc, mRng1, mRng2, tgM_name, tgM_tup, tgMs_nil, tgMs_cons, Option.bind_some, wp_bind, wp_ok, Src.size, wip, asL, lim_v, List.set_cons_succ, List.set_cons_zero, List.getElem?_cons_zero, List.getElem?_cons_succ, gPlus, gAdd]) fun xs S1 ⟨e1, e2⟩ => ?_)
      subst e1 e2
      show Wp (sSeq _ _ [some (enc p), none, some (.loc S1.length), none, none] (S1 ++ [.lst []])) _
      refine wp_seqN (Wp.mono (Q := fun z S' => ∃ e3 e4, z = (.nx, [some (enc p), none, some (.loc S1.length), e3, e4]) ∧ S'[S1.length]? = some (.lst ((ps.map (prt r)).map Val.str)) ∧ Ext S1 S') ?_ fun z S' ⟨e3, e4, e1, h2, hE⟩ => ⟨_, e1, ?_⟩)
      · rw [ep]
        simp only [List.length_cons, List.length_nil, List.map_cons, List.map_nil, Nat.zero_add, Nat.reduceAdd, Nat.reduceSub, Nat.reduceLeDiff, List.replicate, List.cons_append, List.nil_append, if_true, ite_true, and_self, true_and, sSeq, sAsg, sRet, sIf, sNx, sExp, mC, mOp, mUn, mVar, mCall, mCons, mNil, mLst, mTup, mNew, mSl, mNoPart, mPart, mJoin, mLc, mRng1, mRng2, tgM_name, tgM_tup, tgMs_nil, tgMs_cons, Option.bind_some, wp_bind, wp_ok, Src.size, wip, asL, lim_v, List.set_cons_succ, List.set_cons_zero, List.getElem?_cons_zero, List.getElem?_cons_succ, gPlus, gAdd, sFor, mSrc, gIx, at1_, srcOf]
        rw [← ep]
        refine forI_inv (src := .vals (encs ps)) (xs := encs ps) (fun i env S' => ∃ e3 e4, env = [some (enc p), none, some (.loc S1.length), e3, e4] ∧ S'[S1.length]? = some (.lst (((ps.take i).map (prt r)).map Val.str)) ∧ Ext S1 S')
          (fun z S' => ∃ e3 e4, z = (.nx, [some (enc p), none, some (.loc S1.length), e3, e4]) ∧ S'[S1.length]? = some (.lst ((ps.map (prt r)).map Val.str)) ∧ Ext S1 S') (fun _ _ _ _ _ => rfl) (fun env S' ⟨e3, e4, e, h2, hE⟩ => ⟨rfl, e3, e4, by rw [e], by rw [encs_len, List.take_length] at h2; exact h2, hE⟩) (fun i x env S2 hx ⟨e3, e4, e, h2, hE⟩ => ?_) (encs ps).length 0 _ _ (by omega) ⟨none, none, rfl, by rw [app_new]; rfl, Ext.app⟩
        subst e
        have hi := (List.getElem?_eq_some_iff.mp hx).1
        rw [encs_len] at hi
        rw [encs_map, List.getElem?_map, List.getElem?_eq_getElem hi] at hx
        have hx := Option.some.inj hx
        have hm : ps[i] ∈ ps := List.getElem_mem hi
        have ht : ps.take (i + 1) = ps.take i ++ [ps[i]] := (List.take_append_getElem hi).symm
        generalize ps[i] = q at hx hm ht
        subst hx
        obtain ⟨hnq, _⟩ := NFs_iff.mp hns q hm
        have hzq := szs_mem hm
        have hlq := wr_len q hnq
        refine ⟨_, rfl, ?_⟩
        show Wp (sSeq _ _ [some (enc p), none, some (.loc S1.length), some (enc q), e4] S2) _
        refine wp_asg (Wp.mono (Q := fun v S3 => v = .str (wr q) ∧ Ext S2 S3) (by simp only [List.length_cons, List.length_nil, List.map_cons, List.map_nil, Nat.zero_add, Nat.reduceAdd, Nat.reduceSub, Nat.reduceLeDiff, List.replicate, List.cons_append, List.nil_append, if_true, ite_true, and_self, true_and, sSeq, sAsg, sRet, sIf, sNx, sExp, mC, mOp, mUn, mVar, mCall, mCons, mNil, mLst, mTup, mNew, mSl, mNoPart, mPart, mJoin, mLc, mRng1, mRng2, tgM_name, tgM_tup, tgMs_nil, tgMs_cons, Option.bind_some, wp_bind, wp_ok, Src.size, wip, asL, lim_v, List.set_cons_succ, List.set_cons_zero, List.getElem?_cons_zero, List.getElem?_cons_succ, gPlus, gAdd]; exact lw q (hds q hm) hnq (by omega) S2) fun v S3 ⟨e1, hE3⟩ => ?_)
        subst e1
        show Wp (sSeq _ _ [some (enc p), none, some (.loc S1.length), some (enc q), some (.str (wr q))] S3) _
        have h3 := hE3.get h2
        have fin : ∀ y, y = prt r q → Wp (sApp (mVar 2) (mVar 4) [some (enc p), none, some (.loc S1.length), some (enc q), some (.str y)] S3) fun z S' => ∃ e, z = (.nx, e) ∧ ∃ e3 e4, e = [some (enc p), none, some (.loc S1.length), e3, e4] ∧ S'[S1.length]? = some (.lst (((ps.take (i + 1)).map (prt r)).map Val.str)) ∧ Ext S1 S' := fun y ey => by
          have l1 : ((((ps.take i).map (prt r)).map Val.str).length < 100000) = True := eq_true (by rw [List.length_map, List.length_map]; have := List.length_take_le i ps; omega)
          simp only [List.length_cons, List.length_nil, List.map_cons, List.map_nil, Nat.zero_add, Nat.reduceAdd, Nat.reduceSub, Nat.reduceLeDiff, List.replicate, List.cons_append, List.nil_append, if_true, ite_true, and_self, true_and, sSeq, sAsg, sRet, sIf, sNx, sExp, mC, mOp, mUn, mVar, mCall, mCons, mNil, mLst, mTup, mNew, mSl, mNoPart, mPart, mJoin, mLc, mRng1, mRng2, tgM_name, tgM_tup, tgMs_nil, tgMs_cons, Option.bind_some, wp_bind, wp_ok, Src.size, wip, asL, lim_v, List.set_cons_succ, List.set_cons_zero, List.getElem?_cons_zero, List.getElem?_cons_succ, gPlus, gAdd, sApp, h3, l1]
          refine ⟨_, rfl, _, _, rfl, ?_, (hE.trans hE3).set (Nat.le_refl _)⟩
          rw [set_get_self h3, ht, ey]
          simp
        have e0 : (mAnd (mEq false datE datE (mOp gIx (mVar 0) (mC (.int 0))) (mC (.str (cs "row")))) (mEq false datE datE (mOp gIx (mVar 3) (mC (.int 0))) (mC (.str (cs "any"))))) [some (enc p), none, some (.loc S1.length), some (enc q), some (.str (wr q))] S3 = .ok (r && isK false q) S3 := by
          show (Out.bind _ _) = _
          rw [wd_tst (p := p) rfl]
          show (if decide (wd0 p = cs "row") = true then _ else _) = _
          rw [ew]
          cases r with
          | true =>
            have : decide (wd true = cs "row") = true := decide_eq_true rfl
            rw [if_pos this, wd_tst (p := q) rfl]
            cases q <;> rfl
          | false =>
            have : decide (wd false = cs "row") = false := ne_any_row
            rw [this]
            rfl
        have conv : (Wp (sSeq (sIf (mAnd (mEq false datE datE (mOp gIx (mVar 0) (mC (.int 0))) (mC (.str (cs "row")))) (mEq false datE datE (mOp gIx (mVar 3) (mC (.int 0))) (mC (.str (cs "any"))))) (sAsg (.name 4) (mOp gPlus (mOp gPlus (mC (.str (cs "("))) (mVar 4)) (mC (.str (cs ")"))))) sNx)
          (sApp (mVar 2) (mVar 4)) [some (enc p), none, some (.loc S1.length), some (enc q), some (.str (wr q))] S3) fun z S' => ∃ e, z = (.nx, e) ∧ ∃ e3 e4, e = [some (enc p), none, some (.loc S1.length), e3, e4] ∧ S'[S1.length]? = some (.lst (((ps.take (i + 1)).map (prt r)).map Val.str)) ∧ Ext S1 S') := by
          have lt1 : ((wr q).length ≤ 99998) = True := eq_true (by omega)
          have lt2 : (1 + (wr q).length ≤ 100000) = True := eq_true (by omega)
          cases eb : (r && isK false q) with
          | true =>
            rw [eb] at e0
            refine wp_seqN (wp_ifT (by rw [e0]; exact ⟨rfl, rfl⟩) ?_)
            simp only [List.length_cons, List.length_nil, List.map_cons, List.map_nil, Nat.zero_add, Nat.reduceAdd, Nat.reduceSub, Nat.reduceLeDiff, List.replicate, List.cons_append, List.nil_append, if_true, ite_true, and_self, true_and, sSeq, sAsg, sRet, sIf, sNx, sExp, mC, mOp, mUn, mVar, mCall, mCons, mNil, mLst, mTup, mNew, mSl, mNoPart, mPart, mJoin, mLc, mRng1, mRng2, tgM_name, tgM_tup, tgMs_nil, tgMs_cons, Option.bind_some, wp_bind, wp_ok, Src.size, wip, asL, lim_v, List.set_cons_succ, List.set_cons_zero, List.getElem?_cons_zero, List.getElem?_cons_succ, gPlus, gAdd, mEq, datE_bl, datE_int, datE_str, datE_non, dp_ii, dp_bb, dp_ss, dp_ni, dp_in, ev_ii, ev_bb, ev_ss, ev_ni, ev_in, Bool.false_eq_true, if_false, reduceIte, reduceCtorEq, decide_true, decide_false, eq_self, mTst, mOr, mAnd, mNot, mTru, mBl, mChn, mIf, mIsi, mAndV, mOrV, mNotV, tyOf, truth, gCmp, gIsB, gIsN, gNeg, gSub, gLen, gSl, gIx, gRevA, gRev, Bool.not_true, Bool.not_false, c_par, c_close, List.length_append, lt1, lt2]
            refine ⟨_, rfl, ?_⟩
            exact fin _ (by unfold prt brk; rw [eb]; simp)
          | false =>
            rw [eb] at e0
            refine wp_seqN (wp_ifF (by rw [e0]; exact ⟨rfl, rfl⟩) ⟨_, rfl, ?_⟩)
            exact fin _ (by unfold prt brk; rw [eb]; simp)
        refine Wp.mono conv fun z S' ⟨e, e1, h⟩ => ?_
        subst e1
        exact h
      · have hs := prt_sum (r := r) ps hns
        have hE' := hE
        obtain ⟨b0, eb0⟩ : ∃ b0 : Bool, decide (wd0 p = cs "any") = b0 := ⟨_, rfl⟩
        refine wp_ret ?_
        have q1 : (mJoin asE (mOp gIx (mNew (mLst (mCons (mC (.str (cs ""))) (mCons (mC (.str (cs "|"))) mNil)))) (mUn gInt (mBl (mEq false datE datE (mOp gIx (mVar 0) (mC (.int 0))) (mC (.str (cs "any"))))))) (mVar 2)) [some (enc p), none, some (.loc S1.length), e3, e4] S' = .ok (.str (wr p)) (S' ++ [.lst [.str (cs ""), .str (cs "|")]]) := by
          have g2 : (S' ++ [Ob.lst [.str (cs ""), .str (cs "|")]])[S1.length]? = some (.lst ((ps.map (prt r)).map Val.str)) := app_get h2
          have hb : (S' ++ [Ob.lst [.str (cs ""), .str (cs "|")]])[S'.length]? = some (.lst [.str (cs ""), .str (cs "|")]) := app_new
          have tt := wd_tst (p := p) (a := cs "any") (i := 0) (env := [some (enc p), none, some (.loc S1.length), e3, e4]) (S := S' ++ [Ob.lst [.str (cs ""), .str (cs "|")]]) rfl
          have lj : lJoin (if r then [] else [124]) ((ps.map (prt r)).map Val.str) (S' ++ [Ob.lst [.str (cs ""), .str (cs "|")]]) = .ok (.str (wr p)) (S' ++ [Ob.lst [.str (cs ""), .str (cs "|")]]) := by
            have q1 : ((ps.map (prt r)).map List.length).sum + (ps.map (prt r)).length * (if r then ([] : List Nat) else [124]).length ≤ lim := by
              have : (if r then ([] : List Nat) else [124]).length ≤ 1 := by cases r <;> decide
              have : (ps.map (prt r)).length * (if r then ([] : List Nat) else [124]).length ≤ (ps.map (prt r)).length * 1 := Nat.mul_le_mul_left _ this
              rw [List.length_map] at this ⊢
              rw [lim_v]
              omega
            simp only [lJoin, asStrs_map, if_pos q1, hj]
          have e2 : (mUn gInt (mBl (mEq false datE datE (mOp gIx (mVar 0) (mC (.int 0))) (mC (.str (cs "any")))))) [some (enc p), none, some (.loc S1.length), e3, e4] (S' ++ [Ob.lst [.str (cs ""), .str (cs "|")]]) = .ok (.int (if r then 0 else 1)) (S' ++ [Ob.lst [.str (cs ""), .str (cs "|")]]) := by
            show (Out.bind (Out.bind (mEq _ _ _ _ _ _ _) _) _) = _
            rw [tt, ew]
            cases r with
            | true =>
              have : decide (wd true = cs "any") = false := ne_row_any
              rw [this]
              rfl
            | false =>
              have : decide (wd false = cs "any") = true := decide_eq_true rfl
              rw [this]
              rfl
          have e1 : (mOp gIx (mNew (mLst (mCons (mC (.str (cs ""))) (mCons (mC (.str (cs "|"))) mNil)))) (mUn gInt (mBl (mEq false datE datE (mOp gIx (mVar 0) (mC (.int 0))) (mC (.str (cs "any"))))))) [some (enc p), none, some (.loc S1.length), e3, e4] S' = .ok (.str (if r then [] else [124])) (S' ++ [Ob.lst [.str (cs ""), .str (cs "|")]]) := by
            show (Out.bind (mUn gInt _ _ (S' ++ [Ob.lst [.str (cs ""), .str (cs "|")]])) fun y S2 => gIx (.loc S'.length) y S2) = _
            rw [e2]
            show gIx (.loc S'.length) (.int (if r then 0 else 1)) (S' ++ [Ob.lst [.str (cs ""), .str (cs "|")]]) = _
            cases r
            · simp only [gIx, hb, Bool.false_eq_true, if_false, at1_]; rfl
            · simp only [gIx, hb, if_true, at0_]; rfl
          show (Out.bind (mOp _ _ _ _ _) _) = _
          rw [e1]
          show (match asE (.loc S1.length) (S' ++ [Ob.lst [.str (cs ""), .str (cs "|")]]) with | some xs => lJoin (if r then [] else [124]) xs (S' ++ [Ob.lst [.str (cs ""), .str (cs "|")]]) | none => .bad) = _
          simp only [asE, g2]
          exact lj
        rw [q1]
        exact .inl ⟨_, _, rfl, rfl, hE.trans Ext.app⟩
    cases p with
    | sign z =>
      rw [NF] at hn
      obtain ⟨z1, z2⟩ := sg_z hn.2
      refine tk rfl rfl ?_
      rw [enc_sign]
      have c0 : cs "." = [46] := rfl
      have c1 : cs "[" = [91] := rfl
      have c2 : cs "]" = [93] := rfl
      by_cases e : z = sg
      · have q : decide (z = cs " abcdefghijklmnopqrstuvwxyz") = true := decide_eq_true e
        simp only [List.length_cons, List.length_nil, List.map_cons, List.map_nil, Nat.zero_add, Nat.reduceAdd, Nat.reduceSub, Nat.reduceLeDiff, List.replicate, List.cons_append, List.nil_append, if_true, ite_true, and_self, true_and, sSeq, sAsg, sRet, sIf, sNx, sExp, mC, mOp, mUn, mVar, mCall, mCons, mNil, mLst, mTup, mNew, mSl, mNoPart, mPart, mJoin, mLc, mRng1, mRng2, tgM_name, tgM_tup, tgMs_nil, tgMs_cons, Option.bind_some, wp_bind, wp_ok, Src.size, wip, asL, lim_v, List.set_cons_succ, List.set_cons_zero, List.getElem?_cons_zero, List.getElem?_cons_succ, gPlus, gAdd, mEq, datE_bl, datE_int, datE_str, datE_non, dp_ii, dp_bb, dp_ss, dp_ni, dp_in, ev_ii, ev_bb, ev_ss, ev_ni, ev_in, Bool.false_eq_true, if_false, reduceIte, reduceCtorEq, decide_true, decide_false, eq_self, mTst, mOr, mAnd, mNot, mTru, mBl, mChn, mIf, mIsi, mAndV, mOrV, mNotV, tyOf, truth, gCmp, gIsB, gIsN, gNeg, gSub, gLen, gSl, gIx, gRevA, gRev, Bool.not_true, Bool.not_false, at1_, q, c0]
        exact ⟨_, _, rfl, .inl ⟨_, _, rfl, by rw [wr]; unfold sgT; rw [if_pos e], Ext.refl⟩⟩
      have q : decide (z = cs " abcdefghijklmnopqrstuvwxyz") = false := decide_eq_false e
      have l0 : (z.length ≤ 100000) = True := eq_true (by omega)
      by_cases e1 : z.length = 1
      · have q1 : decide ((z.length : Int) = 1) = true := decide_eq_true (by omega)
        simp only [List.length_cons, List.length_nil, List.map_cons, List.map_nil, Nat.zero_add, Nat.reduceAdd, Nat.reduceSub, Nat.reduceLeDiff, List.replicate, List.cons_append, List.nil_append, if_true, ite_true, and_self, true_and, sSeq, sAsg, sRet, sIf, sNx, sExp, mC, mOp, mUn, mVar, mCall, mCons, mNil, mLst, mTup, mNew, mSl, mNoPart, mPart, mJoin, mLc, mRng1, mRng2, tgM_name, tgM_tup, tgMs_nil, tgMs_cons, Option.bind_some, wp_bind, wp_ok, Src.size, wip, asL, lim_v, List.set_cons_succ, List.set_cons_zero, List.getElem?_cons_zero, List.getElem?_cons_succ, gPlus, gAdd, mEq, datE_bl, datE_int, datE_str, datE_non, dp_ii, dp_bb, dp_ss, dp_ni, dp_in, ev_ii, ev_bb, ev_ss, ev_ni, ev_in, Bool.false_eq_true, if_false, reduceIte, reduceCtorEq, decide_true, decide_false, eq_self, mTst, mOr, mAnd, mNot, mTru, mBl, mChn, mIf, mIsi, mAndV, mOrV, mNotV, tyOf, truth, gCmp, gIsB, gIsN, gNeg, gSub, gLen, gSl, gIx, gRevA, gRev, Bool.not_true, Bool.not_false, at1_, q, l0, q1]
        exact ⟨_, _, rfl, .inl ⟨_, _, rfl, by rw [wr]; unfold sgT; rw [if_neg e, if_pos e1], Ext.refl⟩⟩
      have q1 : decide ((z.length : Int) = 1) = false := decide_eq_false (by omega)
      have l1 : (z.length ≤ 99999) = True := eq_true (by omega)
      have l2 : (z.length ≤ 99998) = True := eq_true (by omega)
      have l3 : (1 + z.length ≤ 100000) = True := eq_true (by omega)
      simp only [List.length_cons, List.length_nil, List.map_cons, List.map_nil, Nat.zero_add, Nat.reduceAdd, Nat.reduceSub, Nat.reduceLeDiff, List.replicate, List.cons_append, List.nil_append, if_true, ite_true, and_self, true_and, sSeq, sAsg, sRet, sIf, sNx, sExp, mC, mOp, mUn, mVar, mCall, mCons, mNil, mLst, mTup, mNew, mSl, mNoPart, mPart, mJoin, mLc, mRng1, mRng2, tgM_name, tgM_tup, tgMs_nil, tgMs_cons, Option.bind_some, wp_bind, wp_ok, Src.size, wip, asL, lim_v, List.set_cons_succ, List.set_cons_zero, List.getElem?_cons_zero, List.getElem?_cons_succ, gPlus, gAdd, mEq, datE_bl, datE_int, datE_str, datE_non, dp_ii, dp_bb, dp_ss, dp_ni, dp_in, ev_ii, ev_bb, ev_ss, ev_ni, ev_in, Bool.false_eq_true, if_false, reduceIte, reduceCtorEq, decide_true, decide_false, eq_self, mTst, mOr, mAnd, mNot, mTru, mBl, mChn, mIf, mIsi, mAndV, mOrV, mNotV, tyOf, truth, gCmp, gIsB, gIsN, gNeg, gSub, gLen, gSl, gIx, gRevA, gRev, Bool.not_true, Bool.not_false, at1_, q, l0, q1, c1, c2, List.length_append, l1, l2, l3]
      exact ⟨_, _, rfl, .inl ⟨_, _, rfl, by rw [wr]; unfold sgT; rw [if_neg e, if_neg e1], Ext.refl⟩⟩
    | mark nm q =>
      rw [NF] at hn
      rw [dep] at hd
      rw [sz] at hz
      have hq := wr_len q hn.2
      have w8 := hn.1.2.1
      have lz1 : (1 + nm.length ≤ 100000) = True := eq_true (by omega)
      have lz2 : (nm.length ≤ 99998) = True := eq_true (by omega)
      have lz3 : (nm.length + 1 + 1 + (wr q).length ≤ 100000) = True := eq_true (by omega)
      have lz4 : (nm.length + 1 + (wr q).length ≤ 99998) = True := eq_true (by omega)
      refine sk rfl (of_decide_eq_false ne_sign_mark) (tk rfl rfl (wp_ret ?_))
      rw [enc_mark]
      simp only [List.length_cons, List.length_nil, List.map_cons, List.map_nil, Nat.zero_add, Nat.reduceAdd, Nat.reduceSub, Nat.reduceLeDiff, List.replicate, List.cons_append, List.nil_append, if_true, ite_true, and_self, true_and, sSeq, sAsg, sRet, sIf, sNx, sExp, mC, mOp, mUn, mVar, mCall, mCons, mNil, mLst, mTup, mNew, mSl, mNoPart, mPart, mJoin, mLc, mRng1, mRng2, tgM_name, tgM_tup, tgMs_nil, tgMs_cons, Option.bind_some, wp_bind, wp_ok, Src.size, wip, asL, lim_v, List.set_cons_succ, List.set_cons_zero, List.getElem?_cons_zero, List.getElem?_cons_succ, gPlus, gAdd, c_lt, c_col, c_gt, gIx, at0_, at1_, at2_, List.length_append, lz1, lz2, lz3, lz4]
      refine (lw q (by omega) hn.2 (by omega) S).run fun v S2 e hE2 => ?_
      subst e
      simp only [List.length_cons, List.length_nil, List.map_cons, List.map_nil, Nat.zero_add, Nat.reduceAdd, Nat.reduceSub, Nat.reduceLeDiff, List.replicate, List.cons_append, List.nil_append, if_true, ite_true, and_self, true_and, sSeq, sAsg, sRet, sIf, sNx, sExp, mC, mOp, mUn, mVar, mCall, mCons, mNil, mLst, mTup, mNew, mSl, mNoPart, mPart, mJoin, mLc, mRng1, mRng2, tgM_name, tgM_tup, tgMs_nil, tgMs_cons, Option.bind_some, wp_bind, wp_ok, Src.size, wip, asL, lim_v, List.set_cons_succ, List.set_cons_zero, List.getElem?_cons_zero, List.getElem?_cons_succ, gPlus, gAdd, List.length_append, lz1, lz2, lz3, lz4]
      exact ⟨_, _, rfl, .inl ⟨_, _, rfl, by rw [wr]; simp, hE2⟩⟩
    | some lo hi q =>
      rw [NF] at hn
      rw [dep] at hd
      rw [sz] at hz
      have hq := wr_len q hn.2
      refine sk rfl (of_decide_eq_false ne_sign_some) (sk rfl (of_decide_eq_false ne_mark_some) (tk rfl rfl ?_))
      obtain ⟨xx, hxx⟩ : ∃ xx : Val, xx = (if hi then .int 1 else .non) := ⟨_, rfl⟩
      have ee : enc (.some lo hi q) = .tup [.str (cs "some"), .int lo, xx, enc q] := by rw [enc_some, hxx]
      have hg : Wp ((mGetN [([.num 0, .num 1], .str (cs "?")), ([.num 0, .none], .str (cs "*")), ([.num 1, .none], .str (cs "+"))] (mSl (mVar 0) (mPart (mC (.int 1))) (mPart (mC (.int 3))))) [some (enc (.some lo hi q)), none, none, none, none] S) fun v S1 => v = .str [cch lo hi] ∧ S1 = S := by
        rcases hn.1 with ⟨rfl, rfl⟩ | ⟨rfl, rfl⟩ | ⟨rfl, rfl⟩ <;> exact ⟨rfl, rfl⟩
      refine wp_asg (Wp.mono hg fun v S1 ⟨e1, e2⟩ => ?_)
      subst e1 e2
      show Wp (sSeq _ _ [some (enc (.some lo hi q)), some (.str [cch lo hi]), none, none, none] S1) _
      have i3 : ∀ S, gIx (enc (.some lo hi q)) (.int 3) S = .ok (enc q) S := fun S => by rw [ee]; rfl
      have t1 : ∀ a S, mEq false datE datE (mOp gIx (mOp gIx (mVar 0) (mC (.int 3))) (mC (.int 0))) (mC (.str a)) [some (enc (.some lo hi q)), some (.str [cch lo hi]), none, none, none] S = .ok (decide (wd0 q = a)) S := fun a S => by
        simp only [mEq, mOp, mC, mVar, List.getElem?_cons_zero, wp_bind, Out.bind, i3, ix0, datE_str, dp_ss, ev_ss, if_true, Bool.false_eq_true, if_false]
      have tt : ∀ S, (mOr (mEq false datE datE (mOp gIx (mOp gIx (mVar 0) (mC (.int 3))) (mC (.int 0))) (mC (.str (cs "sign")))) (mEq false datE datE (mOp gIx (mOp gIx (mVar 0) (mC (.int 3))) (mC (.int 0))) (mC (.str (cs "mark"))))) [some (enc (.some lo hi q)), some (.str [cch lo hi]), none, none, none] S = .ok (!inS q) S := fun S => by
        show (Out.bind _ _) = _
        rw [t1]
        show (if decide (wd0 q = cs "sign") = true then _ else _) = _
        rw [t1]
        cases q <;> rfl
      have lt0 : ((wr q).length ≤ 99999) = True := eq_true (by omega)
      have lt1 : ((wr q).length ≤ 99998) = True := eq_true (by omega)
      have lt2 : (1 + (wr q).length ≤ 100000) = True := eq_true (by omega)
      have lt7 : ((wr q).length ≤ 99997) = True := eq_true (by omega)
      have lt3 : ((wr q).length + 1 ≤ 99998) = True := eq_true (by omega)
      have lt4 : (1 + (wr q).length + 1 ≤ 100000) = True := eq_true (by omega)
      have lt5 : ((wr q).length + 1 ≤ 99999) = True := eq_true (by omega)
      have lt6 : ((wr q).length + 1 + 1 ≤ 99999) = True := eq_true (by omega)
      cases ei : inS q with
      | false =>
        rw [ei] at tt
        refine wp_seqR (wp_ifT (by rw [tt]; exact ⟨rfl, rfl⟩) (wp_ret ?_))
        simp only [List.length_cons, List.length_nil, List.map_cons, List.map_nil, Nat.zero_add, Nat.reduceAdd, Nat.reduceSub, Nat.reduceLeDiff, List.replicate, List.cons_append, List.nil_append, if_true, ite_true, and_self, true_and, sSeq, sAsg, sRet, sIf, sNx, sExp, mC, mOp, mUn, mVar, mCall, mCons, mNil, mLst, mTup, mNew, mSl, mNoPart, mPart, mJoin, mLc, mRng1, mRng2, tgM_name, tgM_tup, tgMs_nil, tgMs_cons, Option.bind_some, wp_bind, wp_ok, Src.size, wip, asL, lim_v, List.set_cons_succ, List.set_cons_zero, List.getElem?_cons_zero, List.getElem?_cons_succ, gPlus, gAdd, i3]
        refine (lw q (by omega) hn.2 (by omega) S1).run fun v S2 e hE2 => ?_
        subst e
        simp only [List.length_cons, List.length_nil, List.map_cons, List.map_nil, Nat.zero_add, Nat.reduceAdd, Nat.reduceSub, Nat.reduceLeDiff, List.replicate, List.cons_append, List.nil_append, if_true, ite_true, and_self, true_and, sSeq, sAsg, sRet, sIf, sNx, sExp, mC, mOp, mUn, mVar, mCall, mCons, mNil, mLst, mTup, mNew, mSl, mNoPart, mPart, mJoin, mLc, mRng1, mRng2, tgM_name, tgM_tup, tgMs_nil, tgMs_cons, Option.bind_some, wp_bind, wp_ok, Src.size, wip, asL, lim_v, List.set_cons_succ, List.set_cons_zero, List.getElem?_cons_zero, List.getElem?_cons_succ, gPlus, gAdd, lt0]
        exact ⟨_, _, rfl, _, _, rfl, .inl ⟨_, _, rfl, by rw [wr, ei]; rfl, hE2⟩⟩
      | true =>
        rw [ei] at tt
        refine wp_seqN (wp_ifF (by rw [tt]; exact ⟨rfl, rfl⟩) ⟨_, rfl, wp_ret ?_⟩)
        simp only [List.length_cons, List.length_nil, List.map_cons, List.map_nil, Nat.zero_add, Nat.reduceAdd, Nat.reduceSub, Nat.reduceLeDiff, List.replicate, List.cons_append, List.nil_append, if_true, ite_true, and_self, true_and, sSeq, sAsg, sRet, sIf, sNx, sExp, mC, mOp, mUn, mVar, mCall, mCons, mNil, mLst, mTup, mNew, mSl, mNoPart, mPart, mJoin, mLc, mRng1, mRng2, tgM_name, tgM_tup, tgMs_nil, tgMs_cons, Option.bind_some, wp_bind, wp_ok, Src.size, wip, asL, lim_v, List.set_cons_succ, List.set_cons_zero, List.getElem?_cons_zero, List.getElem?_cons_succ, gPlus, gAdd, i3, c_par, c_close]
        refine (lw q (by omega) hn.2 (by omega) S1).run fun v S2 e hE2 => ?_
        subst e
        simp only [List.length_cons, List.length_nil, List.map_cons, List.map_nil, Nat.zero_add, Nat.reduceAdd, Nat.reduceSub, Nat.reduceLeDiff, List.replicate, List.cons_append, List.nil_append, if_true, ite_true, and_self, true_and, sSeq, sAsg, sRet, sIf, sNx, sExp, mC, mOp, mUn, mVar, mCall, mCons, mNil, mLst, mTup, mNew, mSl, mNoPart, mPart, mJoin, mLc, mRng1, mRng2, tgM_name, tgM_tup, tgMs_nil, tgMs_cons, Option.bind_some, wp_bind, wp_ok, Src.size, wip, asL, lim_v, List.set_cons_succ, List.set_cons_zero, List.getElem?_cons_zero, List.getElem?_cons_succ, gPlus, gAdd, List.length_append, lt0, lt1, lt2, lt3, lt4, lt5, lt6, lt7]
        exact ⟨_, _, rfl, .inl ⟨_, _, rfl, by rw [wr, ei]; unfold brk; simp, hE2⟩⟩
    | row ps =>
      rw [NF] at hn
      rw [dep] at hd
      rw [sz] at hz
      refine sk rfl (of_decide_eq_false ne_sign_row) (sk rfl (of_decide_eq_false ne_mark_row) (sk rfl (of_decide_eq_false ne_some_row) ?_))
      exact many true ps S rfl rfl hn.1 (fun q hq => by have := deps_mem hq; omega) (by omega) (by
        have : prt true = fun p => brk (isK false p) (wr p) := by funext p; unfold prt; rw [Bool.true_and]
        rw [this, wr]; exact joinL_e ps)
    | any ps =>
      rw [NF] at hn
      rw [dep] at hd
      rw [sz] at hz
      refine sk rfl (of_decide_eq_false ne_sign_any) (sk rfl (of_decide_eq_false ne_mark_any) (sk rfl (of_decide_eq_false ne_some_any) ?_))
      exact many false ps S rfl rfl hn.1 (fun q hq => by have := deps_mem hq; omega) (by omega) (by
        have : prt false = wr := by funext p; unfold prt brk; rfl
        rw [this, wr]
        cases ps with
        | nil => have := hn.2; simp at this
        | cons p ps => exact joinL_bar p ps)
/-! ### a pattern is written right -/
theorem right_ok {k : Nat} {p : Pat} (hd : dep p ≤ 12) (hn : NF p) (hz : sz p ≤ 1000) : Wx (Fn (k + 28) 18 [enc p] S) S (· = .bl true) := by
  obtain ⟨t, hr⟩ := repr_ok hn (by omega) hz
  rw [fn__law_right]
  refine wx_trm ?_
  unfold Wx
  refine wp_runF rfl ?_
  unfold b__law_right
  refine wp_asg (Wp.mono (Q := fun v S1 => v = .str t ∧ S1 = S) (by simp only [List.length_cons, List.length_nil, List.map_cons, List.map_nil, Nat.zero_add, Nat.reduceAdd, Nat.reduceSub, Nat.reduceLeDiff, List.replicate, List.cons_append, List.nil_append, if_true, ite_true, and_self, true_and, sSeq, sAsg, sRet, sIf, sNx, sExp, mC, mOp, mUn, mVar, mCall, mCons, mNil, mLst, mTup, mNew, mSl, mNoPart, mPart, mJoin, mLc, mRng1, mRng2, tgM_name, tgM_tup, tgMs_nil, tgMs_cons, Option.bind_some, wp_bind, wp_ok, Src.size, wip, asL, lim_v, List.set_cons_succ, List.set_cons_zero, List.getElem?_cons_zero, List.getElem?_cons_succ, gPlus, gAdd, hr]) fun v S1 ⟨e1, e2⟩ => ?_)
  subst e1 e2
  have hw : ∀ S, Wx (Fn (k + 27) 60 [enc p] S) S (· = .str (wr p)) := fun S => by
    have := write_ok 12 (k + 1) p S hd hn hz
    rw [show 2 * 12 + (k + 1) + 2 = k + 27 by omega] at this
    exact this
  have hv : ∀ S, Wx (Fn (k + 27) 61 [enc p] S) S (· = .str (wr p)) := fun S => by
    have := written_ok 12 (k + 14) p S hd hn hz
    rw [show 12 + (k + 14) + 1 = k + 27 by omega] at this
    exact this
  refine wp_asg (Wp.mono (Q := fun v S2 => v = .str (wr p) ∧ Ext S1 S2) ?_ fun v S2 ⟨e1, hE⟩ => ?_)
  · simp only [List.length_cons, List.length_nil, List.map_cons, List.map_nil, Nat.zero_add, Nat.reduceAdd, Nat.reduceSub, Nat.reduceLeDiff, List.replicate, List.cons_append, List.nil_append, if_true, ite_true, and_self, true_and, sSeq, sAsg, sRet, sIf, sNx, sExp, mC, mOp, mUn, mVar, mCall, mCons, mNil, mLst, mTup, mNew, mSl, mNoPart, mPart, mJoin, mLc, mRng1, mRng2, tgM_name, tgM_tup, tgMs_nil, tgMs_cons, Option.bind_some, wp_bind, wp_ok, Src.size, wip, asL, lim_v, List.set_cons_succ, List.set_cons_zero, List.getElem?_cons_zero, List.getElem?_cons_succ, gPlus, gAdd]
    exact hw S1
  subst e1
  show Wp (sRet _ [some (enc p), some (.str t), some (.str (wr p))] S2) _
  refine wp_ret ?_
  simp only [List.length_cons, List.length_nil, List.map_cons, List.map_nil, Nat.zero_add, Nat.reduceAdd, Nat.reduceSub, Nat.reduceLeDiff, List.replicate, List.cons_append, List.nil_append, if_true, ite_true, and_self, true_and, sSeq, sAsg, sRet, sIf, sNx, sExp, mC, mOp, mUn, mVar, mCall, mCons, mNil, mLst, mTup, mNew, mSl, mNoPart, mPart, mJoin, mLc, mRng1, mRng2, tgM_name, tgM_tup, tgMs_nil, tgMs_cons, Option.bind_some, wp_bind, wp_ok, Src.size, wip, asL, lim_v, List.set_cons_succ, List.set_cons_zero, List.getElem?_cons_zero, List.getElem?_cons_succ, gPlus, gAdd, mEq, datE_bl, datE_int, datE_str, datE_non, dp_ii, dp_bb, dp_ss, dp_ni, dp_in, ev_ii, ev_bb, ev_ss, ev_ni, ev_in, Bool.false_eq_true, if_false, reduceIte, reduceCtorEq, decide_true, decide_false, eq_self, mTst, mOr, mAnd, mNot, mTru, mBl, mChn, mIf, mIsi, mAndV, mOrV, mNotV, tyOf, truth, gCmp, gIsB, gIsN, gNeg, gSub, gLen, gSl, gIx, gRevA, gRev, Bool.not_true, Bool.not_false, isT_NoneType_int, isT_NoneType_bool, isT_NoneType_str, isT_NoneType_tuple, isT_NoneType_list, isT_NoneType_dict, isT_bool_int, isT_bool_bool, isT_bool_str, isT_bool_tuple, isT_bool_list, isT_bool_dict, isT_int_int, isT_int_bool, isT_int_str, isT_int_tuple, isT_int_list, isT_int_dict, isT_str_int, isT_str_bool, isT_str_str, isT_str_tuple, isT_str_list, isT_str_dict, isT_tuple_int, isT_tuple_bool, isT_tuple_str, isT_tuple_tuple, isT_tuple_list, isT_tuple_dict, isT_list_int, isT_list_bool, isT_list_str, isT_list_tuple, isT_list_list, isT_list_dict, isT_dict_int, isT_dict_bool, isT_dict_str, isT_dict_tuple, isT_dict_list, isT_dict_dict]
  refine (hv S2).run fun v S3 e hE3 => ?_
  subst e
  simp only [List.length_cons, List.length_nil, List.map_cons, List.map_nil, Nat.zero_add, Nat.reduceAdd, Nat.reduceSub, Nat.reduceLeDiff, List.replicate, List.cons_append, List.nil_append, if_true, ite_true, and_self, true_and, sSeq, sAsg, sRet, sIf, sNx, sExp, mC, mOp, mUn, mVar, mCall, mCons, mNil, mLst, mTup, mNew, mSl, mNoPart, mPart, mJoin, mLc, mRng1, mRng2, tgM_name, tgM_tup, tgMs_nil, tgMs_cons, Option.bind_some, wp_bind, wp_ok, Src.size, wip, asL, lim_v, List.set_cons_succ, List.set_cons_zero, List.getElem?_cons_zero, List.getElem?_cons_succ, gPlus, gAdd, mEq, datE_bl, datE_int, datE_str, datE_non, dp_ii, dp_bb, dp_ss, dp_ni, dp_in, ev_ii, ev_bb, ev_ss, ev_ni, ev_in, Bool.false_eq_true, if_false, reduceIte, reduceCtorEq, decide_true, decide_false, eq_self, mTst, mOr, mAnd, mNot, mTru, mBl, mChn, mIf, mIsi, mAndV, mOrV, mNotV, tyOf, truth, gCmp, gIsB, gIsN, gNeg, gSub, gLen, gSl, gIx, gRevA, gRev, Bool.not_true, Bool.not_false, hr]
  exact .inl ⟨_, _, rfl, rfl, hE.trans hE3⟩
end
end Mx.K07

set_option linter.all false
set_option maxRecDepth 100000
set_option maxHeartbeats 2000000
namespace Mx.K07
open Mx L2 PySem
def GP (p : Pat) : Prop := NF p ∧ dep p ≤ 12 ∧ sz p ≤ 60
theorem cF_le {d : Nat} (h : d ≤ 11) : cF d ≤ 24414062500 := by
  unfold cF
  have : 5 ^ d ≤ 5 ^ 11 := Nat.pow_le_pow_right (by decide) h
  omega
theorem pattern_ok {S : Sto} {D C m : Nat} (hD : Dk S D C m) (hm : m + 24414063000 ≤ 2 ^ 39) : Dw (Fn 59 35 [.loc D, .int 59, .int 10] S) S D C (m + 24414062600) fun v _ => ∃ p, v = enc p ∧ GP p := by
  rw [fn__law_pattern]
  refine dw_trm hD.ltD hD.ltC ?_ fun _ _ p _ _ _ => p
  unfold Dw runF b__law_pattern
  simp only [List.length_cons, List.length_nil, List.map_cons, List.map_nil, Nat.zero_add, Nat.reduceAdd, Nat.reduceSub, Nat.reduceLeDiff, List.replicate, List.cons_append, List.nil_append, if_true, ite_true, and_self, true_and, sSeq, sAsg, sRet, sIf, sNx, sExp, mC, mOp, mUn, mVar, mCall, mCons, mNil, mLst, mTup, mNew, mSl, mNoPart, mPart, mJoin, mLc, mRng1, mRng2, tgM_name, tgM_tup, tgMs_nil, tgMs_cons, Option.bind_some, wp_bind, wp_ok, Src.size, wip, asL, lim_v, List.set_cons_succ, List.set_cons_zero, List.getElem?_cons_zero, List.getElem?_cons_succ, gPlus, gAdd]
  refine (dr 57).go hD (by omega) (by decide) (by decide) fun i1 S1 g1 h1 d1 k1 => ?_
  obtain ⟨c, hc⟩ : ∃ c : Nat, 1 + i1 = c := ⟨(1 + i1).toNat, by omega⟩
  simp only [List.length_cons, List.length_nil, List.map_cons, List.map_nil, Nat.zero_add, Nat.reduceAdd, Nat.reduceSub, Nat.reduceLeDiff, List.replicate, List.cons_append, List.nil_append, if_true, ite_true, and_self, true_and, sSeq, sAsg, sRet, sIf, sNx, sExp, mC, mOp, mUn, mVar, mCall, mCons, mNil, mLst, mTup, mNew, mSl, mNoPart, mPart, mJoin, mLc, mRng1, mRng2, tgM_name, tgM_tup, tgMs_nil, tgMs_cons, Option.bind_some, wp_bind, wp_ok, Src.size, wip, asL, lim_v, List.set_cons_succ, List.set_cons_zero, List.getElem?_cons_zero, List.getElem?_cons_succ, gPlus, gAdd, hc]
  refine Wp.mono (names_ok (n := 55) (cnt := c) (by omega) d1 (by omega)) fun v S2 ⟨d2, k2, q, ns, e, q1, q2, q3, q4⟩ => ?_
  subst e
  refine (dr 57).go d2 (by omega) (by decide) (by decide) fun i3 S3 g3 h3 d3 k3 => ?_
  refine (dr 57).go d3.app (by omega) (by decide) (by decide) fun i4 S4 g4 h4 d4 k4 => ?_
  obtain ⟨l, rfl⟩ : ∃ l : Nat, i3 = l := ⟨i3.toNat, by omega⟩
  obtain ⟨d, hd, hd9⟩ : ∃ d : Nat, 1 + i4 = ((d + 1 : Nat) : Int) ∧ d ≤ 9 := ⟨i4.toNat, by omega, by omega⟩
  simp only [List.length_cons, List.length_nil, List.map_cons, List.map_nil, Nat.zero_add, Nat.reduceAdd, Nat.reduceSub, Nat.reduceLeDiff, List.replicate, List.cons_append, List.nil_append, if_true, ite_true, and_self, true_and, sSeq, sAsg, sRet, sIf, sNx, sExp, mC, mOp, mUn, mVar, mCall, mCons, mNil, mLst, mTup, mNew, mSl, mNoPart, mPart, mJoin, mLc, mRng1, mRng2, tgM_name, tgM_tup, tgMs_nil, tgMs_cons, Option.bind_some, wp_bind, wp_ok, Src.size, wip, asL, lim_v, List.set_cons_succ, List.set_cons_zero, List.getElem?_cons_zero, List.getElem?_cons_succ, gPlus, gAdd, hd]
  have lD := d1.ltD
  have lC := d1.ltC
  have l2 := get_lt q2
  have k3l := k3.le
  have k2l := k2.le
  have k1l := k1.le
  have hL : S4[S3.length]? = some (.lst [.int (l : Int)]) := (k4.get _ (by rw [List.length_append]; simp) (by omega) (by omega)).trans app_new
  have hN : S4[q]? = some (.lst (ns.map Val.str)) := by
    rw [k4.get _ (by rw [List.length_append]; omega) (by omega) (by omega), List.getElem?_append_left (by omega), k3.get _ l2 (by omega) (by omega)]
    exact q2
  have hcF := cF_le (Nat.le_trans hd9 (by decide))
  have lv : Fn 58 = Fn (d + (54 - d) + 4) := by congr 1; omega
  rw [lv]
  refine Wp.mono (form_ok (D := D) (C := C) (L := S3.length) (Nm := q) (k := 54 - d) (nms := ns) (by omega) (by omega) q4 (by omega) (by omega) (by omega) (by omega) (by omega) d S4 _ l d4 hL hN (by omega) (by omega)) ?_
  intro v S5 h5
  obtain ⟨⟨p, l', e, f1, f2, f3⟩, f4, f5⟩ := h5
  refine ⟨f4.le (by omega), ⟨?_, fun j hj a b => ?_⟩, p, e, f1.1, by have := f1.2.2; omega, by omega⟩
  · have := f5.le
    have := k4.le
    rw [List.length_append] at this
    omega
  · rw [f5.get j (by have := k4.le; rw [List.length_append] at this; omega) a b (by omega), k4.get j (by rw [List.length_append]; omega) a b, List.getElem?_append_left (by omega), k3.get j (by omega) a b, k2.get j (by omega) a b, k1.get j hj a b]
theorem law_true (ns : List Int) (h : ns.length ≤ 63) : ∃ S, Fn 60 19 [.kl (ns.map Val.int)] [] = .ok (.bl true) S := by
  suffices w : Wp (Fn 60 19 [.kl (ns.map Val.int)] []) fun v _ => v = .bl true by
    obtain ⟨a, S, e, rfl⟩ := w.ex
    exact ⟨S, e⟩
  rw [fn_law]
  refine wp_trm ?_ fun _ _ p _ _ => p
  obtain ⟨S0, e0, d0, l0⟩ := deck_ok h
  have e0' : Fn 59 5 [.kl (ns.map Val.int)] [] = .ok (.loc 2) S0 := e0
  refine wp_runF rfl ?_
  unfold b_law
  refine wp_asg (Wp.mono (Q := fun v S1 => v = .loc 2 ∧ S1 = S0) (by simp only [List.length_cons, List.length_nil, List.map_cons, List.map_nil, Nat.zero_add, Nat.reduceAdd, Nat.reduceSub, Nat.reduceLeDiff, List.replicate, List.cons_append, List.nil_append, if_true, ite_true, and_self, true_and, sSeq, sAsg, sRet, sIf, sNx, sExp, mC, mOp, mUn, mVar, mCall, mCons, mNil, mLst, mTup, mNew, mSl, mNoPart, mPart, mJoin, mLc, mRng1, mRng2, tgM_name, tgM_tup, tgMs_nil, tgMs_cons, Option.bind_some, wp_bind, wp_ok, Src.size, wip, asL, lim_v, List.set_cons_succ, List.set_cons_zero, List.getElem?_cons_zero, List.getElem?_cons_succ, gPlus, gAdd, e0']) fun v S1 ⟨e1, e2⟩ => ?_)
  subst e1 e2
  show Wp (b_law_1 (Fn 59) [some (.kl (ns.map Val.int)), some (.loc 2), none, none, none] S1) _
  unfold b_law_1
  have f5 : (upTo 0 5).length = 5 := upTo_len
  have f15 : ((5 : Int).natAbs ≤ 100000) = True := eq_true (by decide)
  have f25 : (5 : Int).toNat = 5 := rfl
  refine wp_asgL (Wp.mono (Q := fun xs S' => ∃ ps, xs = encs ps ∧ ps.length = 5 ∧ ∀ p ∈ ps, GP p) ?_ fun xs S2 ⟨ps, e, p5, pg⟩ => ?_)
  · simp only [List.length_cons, List.length_nil, List.map_cons, List.map_nil, Nat.zero_add, Nat.reduceAdd, Nat.reduceSub, Nat.reduceLeDiff, List.replicate, List.cons_append, List.nil_append, if_true, ite_true, and_self, true_and, sSeq, sAsg, sRet, sIf, sNx, sExp, mC, mOp, mUn, mVar, mCall, mCons, mNil, mLst, mTup, mNew, mSl, mNoPart, mPart, mJoin, mLc, mRng1, mRng2, tgM_name, tgM_tup, tgMs_nil, tgMs_cons, Option.bind_some, wp_bind, wp_ok, Src.size, wip, asL, lim_v, List.set_cons_succ, List.set_cons_zero, List.getElem?_cons_zero, List.getElem?_cons_succ, gPlus, gAdd, f15, f25, f5]
    refine Wp.mono (compI_inv (src := .vals (upTo 0 5)) (xs := upTo 0 5) (fun i ys S' => ∃ ps, ys = encs ps ∧ ps.length = i ∧ (∀ p ∈ ps, GP p) ∧ Dk S' 2 1 (24414062600 * i)) (fun _ _ _ _ _ => rfl) (fun _ _ _ => rfl) (fun i x acc S2 hx ⟨ps, e, p5, pg, d⟩ => ?_) 5 0 [] S1 (by omega) ⟨[], rfl, rfl, (fun _ z => by cases z), d0⟩) fun ys S' ⟨ps, e, p5, pg, d⟩ => ⟨ps, e, by rw [p5, f5], pg⟩
    obtain ⟨hi, rfl⟩ := upTo_at hx
    subst e
    refine ⟨_, rfl, ?_⟩
    simp only [List.length_cons, List.length_nil, List.map_cons, List.map_nil, Nat.zero_add, Nat.reduceAdd, Nat.reduceSub, Nat.reduceLeDiff, List.replicate, List.cons_append, List.nil_append, if_true, ite_true, and_self, true_and, sSeq, sAsg, sRet, sIf, sNx, sExp, mC, mOp, mUn, mVar, mCall, mCons, mNil, mLst, mTup, mNew, mSl, mNoPart, mPart, mJoin, mLc, mRng1, mRng2, tgM_name, tgM_tup, tgMs_nil, tgMs_cons, Option.bind_some, wp_bind, wp_ok, Src.size, wip, asL, lim_v, List.set_cons_succ, List.set_cons_zero, List.getElem?_cons_zero, List.getElem?_cons_succ, gPlus, gAdd, mYes]
    refine Wp.mono (pattern_ok d (by omega)) fun v S3 ⟨d3, _, p, e, g⟩ => ?_
    subst e
    refine ⟨by rw [encs_len]; omega, ps ++ [p], by rw [encs_app]; rfl, by rw [List.length_append, p5]; rfl, fun q hq => ?_, d3.le (by omega)⟩
    rcases List.mem_append.mp hq with hq | hq
    · exact pg q hq
    · rw [List.mem_singleton.mp hq]; exact g
  subst e
  show Wp (b_law_2 (Fn 59) [some (.kl (ns.map Val.int)), some (.loc 2), some (.loc S2.length), none, none] (S2 ++ [.lst (encs ps)])) _
  unfold b_law_2
  refine wp_ret ?_
  have g0 : (S2 ++ [Ob.lst (encs ps)])[S2.length]? = some (.lst (encs ps)) := app_new
  have l5 : (encs ps).length = 5 := by rw [encs_len]; exact p5
  generalize hS3 : S2 ++ [Ob.lst (encs ps)] = S3 at g0
  have g1 : (S3 ++ [Ob.lst (encs ps).reverse])[S2.length]? = some (.lst (encs ps)) := app_get g0
  have g2 : (S3 ++ [Ob.lst (encs ps).reverse])[S3.length]? = some (.lst (encs ps).reverse) := app_new
  generalize hS4 : S3 ++ [Ob.lst (encs ps).reverse] = S4 at g1 g2
  have lt : ((encs ps).length + (encs ps).reverse.length ≤ 100000) = True := eq_true (by rw [List.length_reverse, l5]; decide)
  have e2 : encs ps ++ (encs ps).reverse = (ps ++ ps.reverse).map enc := by rw [encs_map]; simp
  have g3 : (S4 ++ [Ob.lst ((ps ++ ps.reverse).map enc)])[S4.length]? = some (.lst ((ps ++ ps.reverse).map enc)) := app_new
  simp only [List.length_cons, List.length_nil, List.map_cons, List.map_nil, Nat.zero_add, Nat.reduceAdd, Nat.reduceSub, Nat.reduceLeDiff, List.replicate, List.cons_append, List.nil_append, if_true, ite_true, and_self, true_and, sSeq, sAsg, sRet, sIf, sNx, sExp, mC, mOp, mUn, mVar, mCall, mCons, mNil, mLst, mTup, mNew, mSl, mNoPart, mPart, mJoin, mLc, mRng1, mRng2, tgM_name, tgM_tup, tgMs_nil, tgMs_cons, Option.bind_some, wp_bind, wp_ok, Src.size, wip, asL, lim_v, List.set_cons_succ, List.set_cons_zero, List.getElem?_cons_zero, List.getElem?_cons_succ, gPlus, gAdd, mEq, datE_bl, datE_int, datE_str, datE_non, dp_ii, dp_bb, dp_ss, dp_ni, dp_in, ev_ii, ev_bb, ev_ss, ev_ni, ev_in, Bool.false_eq_true, if_false, reduceIte, reduceCtorEq, decide_true, decide_false, eq_self, mTst, mOr, mAnd, mNot, mTru, mBl, mChn, mIf, mIsi, mAndV, mOrV, mNotV, tyOf, truth, gCmp, gIsB, gIsN, gNeg, gSub, gLen, gSl, gIx, gRevA, gRev, Bool.not_true, Bool.not_false, g0, hS4, g1, g2, lt, e2, mSrc, srcOf, g3]
  generalize S4 ++ [Ob.lst ((ps ++ ps.reverse).map enc)] = S5 at g3
  refine (comp_fmA (en := enc) (ps := ps ++ ps.reverse) (fun _ => false) (fun p => enc p) (src_live g3) (by rw [List.length_append, List.length_reverse, p5, lim_v]; decide) fun p hp => ⟨_, rfl, fun S6 hE => ⟨?_, fun h => (by cases h)⟩⟩).run fun ys S6 e6 hE => ?_
  · have g : GP p := by
      rcases List.mem_append.mp hp with h | h
      · exact pg p h
      · exact pg p (List.mem_reverse.mp h)
    unfold Wx
    simp only [List.length_cons, List.length_nil, List.map_cons, List.map_nil, Nat.zero_add, Nat.reduceAdd, Nat.reduceSub, Nat.reduceLeDiff, List.replicate, List.cons_append, List.nil_append, if_true, ite_true, and_self, true_and, sSeq, sAsg, sRet, sIf, sNx, sExp, mC, mOp, mUn, mVar, mCall, mCons, mNil, mLst, mTup, mNew, mSl, mNoPart, mPart, mJoin, mLc, mRng1, mRng2, tgM_name, tgM_tup, tgMs_nil, tgMs_cons, Option.bind_some, wp_bind, wp_ok, Src.size, wip, asL, lim_v, List.set_cons_succ, List.set_cons_zero, List.getElem?_cons_zero, List.getElem?_cons_succ, gPlus, gAdd, mEq, datE_bl, datE_int, datE_str, datE_non, dp_ii, dp_bb, dp_ss, dp_ni, dp_in, ev_ii, ev_bb, ev_ss, ev_ni, ev_in, Bool.false_eq_true, if_false, reduceIte, reduceCtorEq, decide_true, decide_false, eq_self, mTst, mOr, mAnd, mNot, mTru, mBl, mChn, mIf, mIsi, mAndV, mOrV, mNotV, tyOf, truth, gCmp, gIsB, gIsN, gNeg, gSub, gLen, gSl, gIx, gRevA, gRev, Bool.not_true, Bool.not_false]
    refine (right_ok (k := 31) (S := S6) g.2.1 g.1 (by have := g.2.2; omega)).run fun v S7 e hE7 => ?_
    subst e
    simp only [List.length_cons, List.length_nil, List.map_cons, List.map_nil, Nat.zero_add, Nat.reduceAdd, Nat.reduceSub, Nat.reduceLeDiff, List.replicate, List.cons_append, List.nil_append, if_true, ite_true, and_self, true_and, sSeq, sAsg, sRet, sIf, sNx, sExp, mC, mOp, mUn, mVar, mCall, mCons, mNil, mLst, mTup, mNew, mSl, mNoPart, mPart, mJoin, mLc, mRng1, mRng2, tgM_name, tgM_tup, tgMs_nil, tgMs_cons, Option.bind_some, wp_bind, wp_ok, Src.size, wip, asL, lim_v, List.set_cons_succ, List.set_cons_zero, List.getElem?_cons_zero, List.getElem?_cons_succ, gPlus, gAdd, mEq, datE_bl, datE_int, datE_str, datE_non, dp_ii, dp_bb, dp_ss, dp_ni, dp_in, ev_ii, ev_bb, ev_ss, ev_ni, ev_in, Bool.false_eq_true, if_false, reduceIte, reduceCtorEq, decide_true, decide_false, eq_self, mTst, mOr, mAnd, mNot, mTru, mBl, mChn, mIf, mIsi, mAndV, mOrV, mNotV, tyOf, truth, gCmp, gIsB, gIsN, gNeg, gSub, gLen, gSl, gIx, gRevA, gRev, Bool.not_true, Bool.not_false]
    exact hE7
  · have e : ys = [] := by rw [e6]; simp
    subst e
    simp only [List.length_cons, List.length_nil, List.map_cons, List.map_nil, Nat.zero_add, Nat.reduceAdd, Nat.reduceSub, Nat.reduceLeDiff, List.replicate, List.cons_append, List.nil_append, if_true, ite_true, and_self, true_and, sSeq, sAsg, sRet, sIf, sNx, sExp, mC, mOp, mUn, mVar, mCall, mCons, mNil, mLst, mTup, mNew, mSl, mNoPart, mPart, mJoin, mLc, mRng1, mRng2, tgM_name, tgM_tup, tgMs_nil, tgMs_cons, Option.bind_some, wp_bind, wp_ok, Src.size, wip, asL, lim_v, List.set_cons_succ, List.set_cons_zero, List.getElem?_cons_zero, List.getElem?_cons_succ, gPlus, gAdd, mEq, datE_bl, datE_int, datE_str, datE_non, dp_ii, dp_bb, dp_ss, dp_ni, dp_in, ev_ii, ev_bb, ev_ss, ev_ni, ev_in, Bool.false_eq_true, if_false, reduceIte, reduceCtorEq, decide_true, decide_false, eq_self, mTst, mOr, mAnd, mNot, mTru, mBl, mChn, mIf, mIsi, mAndV, mOrV, mNotV, tyOf, truth, gCmp, gIsB, gIsN, gNeg, gSub, gLen, gSl, gIx, gRevA, gRev, Bool.not_true, Bool.not_false, datL_nil, dep_nil, eqv_nil]
    exact .inl ⟨_, _, rfl, rfl⟩
end Mx.K07

set_option linter.all false
set_option maxRecDepth 100000
set_option maxHeartbeats 0
namespace Mx.K07
open PySem PySem.Spec PyProof.Rows L2 Mx
def top (i : Nat) : Stmt := PySem.Challenge.pw_markpieces_k07_patterns_written.main.body.getD i (.Pass ⟨0, 0, 0, 0⟩)
abbrev s_sign_text : Stmt := top 4
abbrev nm_sign_text : List Str := ["signs"]
theorem sc_sign_text : FnScope nm_sign_text ["signs"] (defScope s_sign_text) := ⟨rfl, rfl, rfl, by decide +kernel, rfl, by decide +kernel, by decide +kernel⟩
abbrev D_sign_text (K : PySem.W.Frag) (f : Addr) (fd : FuncData) : Prop := FunD K "sign_text" "sign_text" (defArgs s_sign_text) (defBody s_sign_text) (defScope s_sign_text) [] [] f fd
abbrev s_within : Stmt := top 5
abbrev nm_within : List Str := ["pattern", "words", "text"]
theorem sc_within : FnScope nm_within ["pattern", "words"] (defScope s_within) := ⟨rfl, rfl, rfl, by decide +kernel, rfl, by decide +kernel, by decide +kernel⟩
abbrev D_within (K : PySem.W.Frag) (f : Addr) (fd : FuncData) : Prop := FunD K "within" "within" (defArgs s_within) (defBody s_within) (defScope s_within) [] [] f fd
abbrev s_write : Stmt := top 6
abbrev nm_write : List Str := ["pattern", "word", "rest", "low", "high", "part"]
theorem sc_write : FnScope nm_write ["pattern"] (defScope s_write) := ⟨rfl, rfl, rfl, by decide +kernel, rfl, by decide +kernel, by decide +kernel⟩
abbrev D_write (K : PySem.W.Frag) (f : Addr) (fd : FuncData) : Prop := FunD K "write" "write" (defArgs s_write) (defBody s_write) (defScope s_write) [] [] f fd
abbrev s__law_deck : Stmt := top 8
abbrev nm__law_deck : List Str := ["_law_script", "_law_cell"]
theorem sc__law_deck : FnScope nm__law_deck ["_law_script"] (defScope s__law_deck) := ⟨rfl, rfl, rfl, by decide +kernel, rfl, by decide +kernel, by decide +kernel⟩
abbrev D__law_deck (K : PySem.W.Frag) (f : Addr) (fd : FuncData) : Prop := FunD K "_law_deck" "_law_deck" (defArgs s__law_deck) (defBody s__law_deck) (defScope s__law_deck) [] [] f fd
abbrev s__law_draw : Stmt := top 9
abbrev nm__law_draw : List Str := ["_law_deck_here", "_law_many", "_law_cell", "_law_place"]
theorem sc__law_draw : FnScope nm__law_draw ["_law_deck_here", "_law_many"] (defScope s__law_draw) := ⟨rfl, rfl, rfl, by decide +kernel, rfl, by decide +kernel, by decide +kernel⟩
abbrev D__law_draw (K : PySem.W.Frag) (f : Addr) (fd : FuncData) : Prop := FunD K "_law_draw" "_law_draw" (defArgs s__law_draw) (defBody s__law_draw) (defScope s__law_draw) [] [] f fd
abbrev s__law_letters : Stmt := top 10
abbrev nm__law_letters : List Str := ["_law_deck_here", "_law_many", "_law_k"]
theorem sc__law_letters : FnScope nm__law_letters ["_law_deck_here", "_law_many"] (defScope s__law_letters) := ⟨rfl, rfl, rfl, by decide +kernel, rfl, by decide +kernel, by decide +kernel⟩
abbrev D__law_letters (K : PySem.W.Frag) (f : Addr) (fd : FuncData) : Prop := FunD K "_law_letters" "_law_letters" (defArgs s__law_letters) (defBody s__law_letters) (defScope s__law_letters) [] [] f fd
abbrev s__law_names : Stmt := top 11
abbrev nm__law_names : List Str := ["_law_deck_here", "_law_many", "_law_letters_here", "_law_stem", "_law_at", "_law_first", "_law_step", "_law_k"]
theorem sc__law_names : FnScope nm__law_names ["_law_deck_here", "_law_many"] (defScope s__law_names) := ⟨rfl, rfl, rfl, by decide +kernel, rfl, by decide +kernel, by decide +kernel⟩
abbrev D__law_names (K : PySem.W.Frag) (f : Addr) (fd : FuncData) : Prop := FunD K "_law_names" "_law_names" (defArgs s__law_names) (defBody s__law_names) (defScope s__law_names) [] [] f fd
abbrev s__law_signs : Stmt := top 12
abbrev nm__law_signs : List Str := ["_law_deck_here", "_law_some", "_law_way", "_law_first", "_law_found", "_law_sign"]
theorem sc__law_signs : FnScope nm__law_signs ["_law_deck_here"] (defScope s__law_signs) := ⟨rfl, rfl, rfl, by decide +kernel, rfl, by decide +kernel, by decide +kernel⟩
abbrev D__law_signs (K : PySem.W.Frag) (f : Addr) (fd : FuncData) : Prop := FunD K "_law_signs" "_law_signs" (defArgs s__law_signs) (defBody s__law_signs) (defScope s__law_signs) [] [] f fd
abbrev s__law_flat : Stmt := top 13
abbrev nm__law_flat : List Str := ["_law_parts", "_law_word", "_law_found", "_law_part"]
theorem sc__law_flat : FnScope nm__law_flat ["_law_parts", "_law_word"] (defScope s__law_flat) := ⟨rfl, rfl, rfl, by decide +kernel, rfl, by decide +kernel, by decide +kernel⟩
abbrev D__law_flat (K : PySem.W.Frag) (f : Addr) (fd : FuncData) : Prop := FunD K "_law_flat" "_law_flat" (defArgs s__law_flat) (defBody s__law_flat) (defScope s__law_flat) [] [] f fd
abbrev s__law_form : Stmt := top 14
abbrev nm__law_form : List Str := ["_law_deck_here", "_law_left", "_law_deep", "_law_names_here", "_law_way", "_law_many", "_law_count", "_law_signs_here", "_law_word", "_law_parts", "_law_k"]
theorem sc__law_form : FnScope nm__law_form ["_law_deck_here", "_law_left", "_law_deep", "_law_names_here"] (defScope s__law_form) := ⟨rfl, rfl, rfl, by decide +kernel, rfl, by decide +kernel, by decide +kernel⟩
abbrev D__law_form (K : PySem.W.Frag) (f : Addr) (fd : FuncData) : Prop := FunD K "_law_form" "_law_form" (defArgs s__law_form) (defBody s__law_form) (defScope s__law_form) [] [] f fd
abbrev s__law_pattern : Stmt := top 15
abbrev nm__law_pattern : List Str := ["_law_deck_here", "_law_most", "_law_deep", "_law_names_here"]
theorem sc__law_pattern : FnScope nm__law_pattern ["_law_deck_here", "_law_most", "_law_deep"] (defScope s__law_pattern) := ⟨rfl, rfl, rfl, by decide +kernel, rfl, by decide +kernel, by decide +kernel⟩
abbrev D__law_pattern (K : PySem.W.Frag) (f : Addr) (fd : FuncData) : Prop := FunD K "_law_pattern" "_law_pattern" (defArgs s__law_pattern) (defBody s__law_pattern) (defScope s__law_pattern) [] [] f fd
abbrev s__law_written : Stmt := top 16
abbrev nm__law_written : List Str := ["_law_form_here", "_law_count", "_law_texts", "_law_part", "_law_text"]
theorem sc__law_written : FnScope nm__law_written ["_law_form_here"] (defScope s__law_written) := ⟨rfl, rfl, rfl, by decide +kernel, rfl, by decide +kernel, by decide +kernel⟩
abbrev D__law_written (K : PySem.W.Frag) (f : Addr) (fd : FuncData) : Prop := FunD K "_law_written" "_law_written" (defArgs s__law_written) (defBody s__law_written) (defScope s__law_written) [] [] f fd
abbrev s__law_right : Stmt := top 17
abbrev nm__law_right : List Str := ["_law_pattern_here", "_law_kept", "_law_found"]
theorem sc__law_right : FnScope nm__law_right ["_law_pattern_here"] (defScope s__law_right) := ⟨rfl, rfl, rfl, by decide +kernel, rfl, by decide +kernel, by decide +kernel⟩
abbrev D__law_right (K : PySem.W.Frag) (f : Addr) (fd : FuncData) : Prop := FunD K "_law_right" "_law_right" (defArgs s__law_right) (defBody s__law_right) (defScope s__law_right) [] [] f fd
abbrev s_law : Stmt := top 18
abbrev nm_law : List Str := ["_law_script", "_law_deck_here", "_law_patterns", "_law_k", "_law_pattern_here"]
theorem sc_law : FnScope nm_law ["_law_script"] (defScope s_law) := ⟨rfl, rfl, rfl, by decide +kernel, rfl, by decide +kernel, by decide +kernel⟩
abbrev D_law (K : PySem.W.Frag) (f : Addr) (fd : FuncData) : Prop := FunD K "law" "law" (defArgs s_law) (defBody s_law) (defScope s_law) [] [] f fd
structure Bl (mg : Str → Option Value) : Prop where
  b_abs : mg "abs" = none
  b_int : mg "int" = none
  b_isinstance : mg "isinstance" = none
  b_len : mg "len" = none
  b_list : mg "list" = none
  b_range : mg "range" = none
  b_repr : mg "repr" = none
  b_str : mg "str" = none
  b_tuple : mg "tuple" = none
structure Gs (mg : Str → Option Value) : Prop where
  c_SIGNS : ∃ t, mg "SIGNS" = some (.str (Str.ofString " abcdefghijklmnopqrstuvwxyz") t)
structure Zs (K : PySem.W.Frag) (w : World) (mg : Str → Option Value) : Prop where
  n_COUNTS : KDN K w mg "COUNTS" cn_COUNTS
section
variable {P : Program} {w : World} {K : PySem.W.Frag} {mg : Str → Option Value} {base : Heap}
structure Fds (P : Program) (w : World) (K : PySem.W.Frag) (mg : Str → Option Value) (base : Heap) (n : Nat) : Prop where
  f_sign_text : Fd P w K mg base CX0 n "sign_text" (Fn n 58)
  f_within : Fd P w K mg base CX0 n "within" (Fn n 59)
  f_write : Fd P w K mg base CX0 n "write" (Fn n 60)
  f__law_deck : Fd P w K mg base CX0 n "_law_deck" (Fn n 5)
  f__law_draw : Fd P w K mg base CX0 n "_law_draw" (Fn n 6)
  f__law_letters : Fd P w K mg base CX0 n "_law_letters" (Fn n 32)
  f__law_names : Fd P w K mg base CX0 n "_law_names" (Fn n 7)
  f__law_signs : Fd P w K mg base CX0 n "_law_signs" (Fn n 33)
  f__law_flat : Fd P w K mg base CX0 n "_law_flat" (Fn n 34)
  f__law_form : Fd P w K mg base CX0 n "_law_form" (Fn n 12)
  f__law_pattern : Fd P w K mg base CX0 n "_law_pattern" (Fn n 35)
  f__law_written : Fd P w K mg base CX0 n "_law_written" (Fn n 61)
  f__law_right : FdG P w K mg base CX0 n "_law_right" (Fn n 18)
  f_law : FdG P w K mg base CX0 n "law" (Fn n 19)
theorem o_sign_text {n : Nat} {f : Addr} {fd : FuncData} (B : Bl mg) (G : Gs mg) (Zc : Zs K w mg) (C : Fds P w K mg base n) (F : D_sign_text K f fd) : FnOk P w K mg base CX0 (n + 1) f fd ["signs"] (spI K (Fn (n + 1) 58)) := by
  have nd := sc_sign_text.nd
  rw [fn_sign_text]
  refine @fn_md P w K mg base "sign_text" "sign_text" s_sign_text f fd nm_sign_text ["signs"] n (b_sign_text (Fn n)) F sc_sign_text (fun cdv A outer s H E hr => ?_)
  unfold b_sign_text
  exact (pssm_cons (psm_if (ptm_eqG (op_eqP hr.units) viewE viewE ((PEm.x (pem_var (i := 0)))) ((PEm.x (pem_gstr G.c_SIGNS))) (nomark _)) (pssm_one (psm_ret pem_cs)) pssm_nil)
    (pssm_one (psm_ret (pem_if (ptm_eqG (op_eqP hr.units) viewE viewE ((PEm.x (pem_b1 unm_len B.b_len (pem_var (i := 0))))) ((PEm.x pem_int)) (nomark _)) (pem_var (i := 0)) (pem_op opm_plus (pem_op opm_plus pem_cs (pem_var (i := 0))) pem_cs)))))
theorem o_within {n : Nat} {f : Addr} {fd : FuncData} (B : Bl mg) (G : Gs mg) (Zc : Zs K w mg) (C : Fds P w K mg base n) (F : D_within K f fd) : FnOk P w K mg base CX0 (n + 1) f fd ["pattern", "words"] (spI K (Fn (n + 1) 59)) := by
  have nd := sc_within.nd
  rw [fn_within]
  refine @fn_md P w K mg base "within" "within" s_within f fd nm_within ["pattern", "words"] n (b_within (Fn n)) F sc_within (fun cdv A outer s H E hr => ?_)
  unfold b_within
  exact (pssm_cons (psm_asg (pgt_name (j := 2) nd) (pem_call C.f_write hr pass0 (pam_cons (pem_var (i := 0)) pam_nil)))
    (pssm_one (psm_ret (pem_if (ptm_cmp (tsm_in (room66 hr)) (pem_ix (pem_var (i := 0)) pem_int) (pem_var (i := 1))) (pem_op opm_plus (pem_op opm_plus pem_cs (pem_var (i := 2))) pem_cs) (pem_var (i := 2))))))
theorem o_write {n : Nat} {f : Addr} {fd : FuncData} (B : Bl mg) (G : Gs mg) (Zc : Zs K w mg) (C : Fds P w K mg base n) (F : D_write K f fd) : FnOk P w K mg base CX0 (n + 1) f fd ["pattern"] (spI K (Fn (n + 1) 60)) := by
  have nd := sc_write.nd
  rw [fn_write]
  refine @fn_md P w K mg base "write" "write" s_write f fd nm_write ["pattern"] n (b_write (Fn n)) F sc_write (fun cdv A outer s H E hr => ?_)
  unfold b_write
  exact (pssm_cons (psm_star (i := 1) (j := 2) nd (pem_var (i := 0)))
    (pssm_cons (psm_if (ptm_eqG (op_eqP hr.units) viewE viewE ((PEm.x (pem_var (i := 1)))) ((PEm.x pem_cs)) (nomark _)) (pssm_one (psm_ret (pem_call C.f_sign_text hr pass0 (pam_cons (pem_ix (pem_var (i := 2)) pem_int) pam_nil)))) pssm_nil)
    (pssm_cons (psm_if (ptm_eqG (op_eqP hr.units) viewE viewE ((PEm.x (pem_var (i := 1)))) ((PEm.x pem_cs)) (nomark _)) (pssm_one (psm_ret (pem_join lvL pem_cs ((PLm.x (plm_lc (N := nm_write) (sc := defScope s_write) (own := [("part", 5)]) rfl nd (pim_val (pem_ix (pem_var (i := 2)) pem_int)) (by decide +kernel) rfl rfl (fun _ _ _ _ _ => (pgt_name (j := 5) nd)) (fun _ _ _ _ _ => ptsm_nil) (fun _ _ _ _ _ => (pem_call C.f_within hr pass0 (pam_cons (pem_var (i := 5)) (pam_cons (pem_tup (pam_cons pem_cs pam_nil)) pam_nil)))) (by decide))))))) pssm_nil)
    (pssm_cons (psm_if (ptm_eqG (op_eqP hr.units) viewE viewE ((PEm.x (pem_var (i := 1)))) ((PEm.x pem_cs)) (nomark _)) (pssm_one (psm_ret (pem_join lvL pem_cs ((PLm.x (plm_lc (N := nm_write) (sc := defScope s_write) (own := [("part", 5)]) rfl nd (pim_val (pem_ix (pem_var (i := 2)) pem_int)) (by decide +kernel) rfl rfl (fun _ _ _ _ _ => (pgt_name (j := 5) nd)) (fun _ _ _ _ _ => ptsm_nil) (fun _ _ _ _ _ => (pem_call C.f_write hr pass0 (pam_cons (pem_var (i := 5)) pam_nil))) (by decide))))))) pssm_nil)
    (pssm_cons (psm_if (ptm_eqG (op_eqP hr.units) viewE viewE ((PEm.x (pem_var (i := 1)))) ((PEm.x pem_cs)) (nomark _)) (pssm_cons (psm_asgU rfl (pgts_cons (pgt_name (j := 3) nd) (pgts_cons (pgt_name (j := 4) nd) (pgts_cons (pgt_name (j := 5) nd) pgts_nil))) (pem_var (i := 2)))
    (pssm_one (psm_ret (pem_op opm_plus (pem_call C.f_within hr pass0 (pam_cons (pem_var (i := 5)) (pam_cons (pem_tup (pam_cons pem_cs (pam_cons pem_cs (pam_cons pem_cs pam_nil)))) pam_nil))) (pem_getN (room66 hr) Zc.n_COUNTS (pem_tup (pam_cons (pem_var (i := 3)) (pam_cons (pem_var (i := 4)) pam_nil)))))))) pssm_nil)
    (pssm_one (psm_ret (pem_op opm_plus (pem_op opm_plus (pem_op opm_plus (pem_op opm_plus pem_cs (pem_ix (pem_var (i := 2)) pem_int)) pem_cs) (pem_call C.f_write hr pass0 (pam_cons (pem_ix (pem_var (i := 2)) pem_int) pam_nil))) pem_cs))))))))
theorem o__law_deck {n : Nat} {f : Addr} {fd : FuncData} (B : Bl mg) (G : Gs mg) (Zc : Zs K w mg) (C : Fds P w K mg base n) (F : D__law_deck K f fd) : FnOk P w K mg base CX0 (n + 1) f fd ["_law_script"] (spI K (Fn (n + 1) 5)) := by
  have nd := sc__law_deck.nd
  rw [fn__law_deck]
  refine @fn_md P w K mg base "_law_deck" "_law_deck" s__law_deck f fd nm__law_deck ["_law_script"] n (b__law_deck (Fn n)) F sc__law_deck (fun cdv A outer s H E hr => ?_)
  unfold b__law_deck
  exact (pssm_one (psm_ret (pem_new (plm_lst (pam_cons (pem_new (plm_lc (N := nm__law_deck) (sc := defScope s__law_deck) (own := [("_law_cell", 1)]) rfl nd (pim_val (pem_slice (pem_var (i := 0)) pom_none (pom_some pem_int))) (by decide +kernel) rfl rfl (fun _ _ _ _ _ => (pgt_name (j := 1) nd)) (fun _ _ _ _ _ => ptsm_nil) (fun _ _ _ _ _ => (pem_b1 unm_abs B.b_abs (pem_var (i := 1)))) (by decide))) (pam_cons pem_int pam_nil))))))
theorem o__law_draw {n : Nat} {f : Addr} {fd : FuncData} (B : Bl mg) (G : Gs mg) (Zc : Zs K w mg) (C : Fds P w K mg base n) (F : D__law_draw K f fd) : FnOk P w K mg base CX0 (n + 1) f fd ["_law_deck_here", "_law_many"] (spI K (Fn (n + 1) 6)) := by
  have nd := sc__law_draw.nd
  rw [fn__law_draw]
  refine @fn_md P w K mg base "_law_draw" "_law_draw" s__law_draw f fd nm__law_draw ["_law_deck_here", "_law_many"] n (b__law_draw (Fn n)) F sc__law_draw (fun cdv A outer s H E hr => ?_)
  unfold b__law_draw
  exact (pssm_cons (psm_sub (pem_op opm_plus (pem_ix (pem_var (i := 0)) pem_int) pem_int) (pem_var (i := 0)) pem_int)
    (pssm_cons (psm_asg (pgt_name (j := 2) nd) pem_int)
    (pssm_cons (psm_asg (pgt_name (j := 3) nd) (pem_neg pem_int))
    (pssm_cons (psm_if (ptm_cmp tsm_gt (pem_b1 unm_len B.b_len (pem_ix (pem_var (i := 0)) pem_int)) pem_int) (pssm_cons (psm_asg (pgt_name (j := 3) nd) (pem_op opm_mod (pem_ix (pem_var (i := 0)) pem_int) (pem_b1 unm_len B.b_len (pem_ix (pem_var (i := 0)) pem_int))))
    (pssm_one (psm_asg (pgt_name (j := 2) nd) (pem_ix (pem_ix (pem_var (i := 0)) pem_int) (pem_var (i := 3)))))) pssm_nil)
    (pssm_cons (psm_if (ptm_cmp tsm_ge (pem_var (i := 2)) (pem_op opm_pow pem_int pem_int)) (pssm_cons (psm_sub (pem_op opm_div (pem_var (i := 2)) (pem_var (i := 1))) (pem_ix (pem_var (i := 0)) pem_int) (pem_var (i := 3)))
    (pssm_one (psm_ret (pem_op opm_mod (pem_var (i := 2)) (pem_var (i := 1)))))) pssm_nil)
    (pssm_one (psm_ret (pem_op opm_mod (pem_op opm_mod (pem_op opm_pow (pem_op opm_plus (pem_op opm_plus (pem_op opm_mod (pem_var (i := 2)) pem_int) (pem_op opm_times pem_int (pem_ix (pem_var (i := 0)) pem_int))) pem_int) pem_int) pem_int) (pem_var (i := 1))))))))))
theorem o__law_letters {n : Nat} {f : Addr} {fd : FuncData} (B : Bl mg) (G : Gs mg) (Zc : Zs K w mg) (C : Fds P w K mg base n) (F : D__law_letters K f fd) : FnOk P w K mg base CX0 (n + 1) f fd ["_law_deck_here", "_law_many"] (spI K (Fn (n + 1) 32)) := by
  have nd := sc__law_letters.nd
  rw [fn__law_letters]
  refine @fn_md P w K mg base "_law_letters" "_law_letters" s__law_letters f fd nm__law_letters ["_law_deck_here", "_law_many"] n (b__law_letters (Fn n)) F sc__law_letters (fun cdv A outer s H E hr => ?_)
  unfold b__law_letters
  exact (pssm_one (psm_ret (pem_join lvL pem_cs ((PLm.x (plm_lc (N := nm__law_letters) (sc := defScope s__law_letters) (own := [("_law_k", 2)]) rfl nd (pim_range1 B.b_range (pem_var (i := 1))) (by decide +kernel) rfl rfl (fun _ _ _ _ _ => (pgt_name (j := 2) nd)) (fun _ _ _ _ _ => ptsm_nil) (fun _ _ _ _ _ => (pem_ix pem_cs (pem_call C.f__law_draw hr pass0 (pam_cons (pem_var (i := 0)) (pam_cons pem_int pam_nil))))) (by decide)))))))
theorem o__law_names {n : Nat} {f : Addr} {fd : FuncData} (B : Bl mg) (G : Gs mg) (Zc : Zs K w mg) (C : Fds P w K mg base n) (F : D__law_names K f fd) : FnOk P w K mg base CX0 (n + 1) f fd ["_law_deck_here", "_law_many"] (spI K (Fn (n + 1) 7)) := by
  have nd := sc__law_names.nd
  rw [fn__law_names]
  refine @fn_md P w K mg base "_law_names" "_law_names" s__law_names f fd nm__law_names ["_law_deck_here", "_law_many"] n (b__law_names (Fn n)) F sc__law_names (fun cdv A outer s H E hr => ?_)
  unfold b__law_names
  exact (pssm_cons (psm_asg (pgt_name (j := 2) nd) pem_cs)
    (pssm_cons (psm_asg (pgt_name (j := 3) nd) (pem_call C.f__law_letters hr pass0 (pam_cons (pem_var (i := 0)) (pam_cons (pem_ix (pem_new (plm_lst (pam_cons pem_int (pam_cons pem_int (pam_cons pem_int (pam_cons pem_int (pam_cons pem_int (pam_cons pem_int (pam_cons pem_int (pam_cons pem_int pam_nil)))))))))) (pem_call C.f__law_draw hr pass0 (pam_cons (pem_var (i := 0)) (pam_cons pem_int pam_nil)))) pam_nil))))
    (pssm_cons (psm_asg (pgt_name (j := 4) nd) (pem_call C.f__law_draw hr pass0 (pam_cons (pem_var (i := 0)) (pam_cons (pem_op opm_plus (pem_b1 unm_len B.b_len (pem_var (i := 3))) pem_int) pam_nil))))
    (pssm_cons (psm_asg (pgt_name (j := 5) nd) (pem_call C.f__law_draw hr pass0 (pam_cons (pem_var (i := 0)) (pam_cons pem_int pam_nil))))
    (pssm_cons (psm_asg (pgt_name (j := 6) nd) (pem_ix (pem_new (plm_lst (pam_cons pem_int (pam_cons pem_int (pam_cons pem_int (pam_cons pem_int (pam_cons pem_int (pam_cons pem_int (pam_cons pem_int (pam_cons pem_int pam_nil)))))))))) (pem_call C.f__law_draw hr pass0 (pam_cons (pem_var (i := 0)) (pam_cons pem_int pam_nil)))))
    (pssm_one (psm_ret (pem_new (plm_lc (N := nm__law_names) (sc := defScope s__law_names) (own := [("_law_k", 7)]) rfl nd (pim_range1 B.b_range (pem_var (i := 1))) (by decide +kernel) rfl rfl (fun _ _ _ _ _ => (pgt_name (j := 7) nd)) (fun _ _ _ _ _ => ptsm_nil) (fun _ _ _ _ _ => (pem_op opm_plus (pem_op opm_plus (pem_slice (pem_var (i := 3)) pom_none (pom_some (pem_var (i := 4)))) (pem_ix (pem_var (i := 2)) (pem_op opm_mod (pem_op opm_plus (pem_var (i := 5)) (pem_op opm_times (pem_var (i := 6)) (pem_var (i := 7)))) pem_int))) (pem_slice (pem_var (i := 3)) (pom_some (pem_var (i := 4))) pom_none))) (by decide))))))))))
theorem o__law_signs {n : Nat} {f : Addr} {fd : FuncData} (B : Bl mg) (G : Gs mg) (Zc : Zs K w mg) (C : Fds P w K mg base n) (F : D__law_signs K f fd) : FnOk P w K mg base CX0 (n + 1) f fd ["_law_deck_here"] (spI K (Fn (n + 1) 33)) := by
  have nd := sc__law_signs.nd
  rw [fn__law_signs]
  refine @fn_md P w K mg base "_law_signs" "_law_signs" s__law_signs f fd nm__law_signs ["_law_deck_here"] n (b__law_signs (Fn n)) F sc__law_signs (fun cdv A outer s H E hr => ?_)
  unfold b__law_signs
  exact (pssm_cons (psm_asg (pgt_name (j := 1) nd) pem_cs)
    (pssm_cons (psm_asg (pgt_name (j := 2) nd) (pem_call C.f__law_draw hr pass0 (pam_cons (pem_var (i := 0)) (pam_cons pem_int pam_nil))))
    (pssm_cons (psm_asg (pgt_name (j := 3) nd) (pem_call C.f__law_draw hr pass0 (pam_cons (pem_var (i := 0)) (pam_cons pem_int pam_nil))))
    (pssm_cons (psm_if (ptm_cmp tsm_lt (pem_var (i := 2)) pem_int) (pssm_one (psm_ret (pem_ix (pem_var (i := 1)) (pem_var (i := 3))))) pssm_nil)
    (pssm_cons (psm_if (ptm_eqG (op_eqP hr.units) viewE viewE ((PEm.x (pem_var (i := 2)))) ((PEm.x pem_int)) (nomark _)) (pssm_one (psm_ret (pem_var (i := 1)))) pssm_nil)
    (pssm_cons (psm_if (ptm_eqG (op_eqP hr.units) viewE viewE ((PEm.x (pem_var (i := 2)))) ((PEm.x pem_int)) (nomark _)) (pssm_one (psm_ret (pem_slice (pem_var (i := 1)) (pom_some (pem_var (i := 3))) (pom_some (pem_op opm_plus (pem_op opm_plus (pem_var (i := 3)) pem_int) (pem_call C.f__law_draw hr pass0 (pam_cons (pem_var (i := 0)) (pam_cons pem_int pam_nil)))))))) pssm_nil)
    (pssm_cons (psm_setLc (N := nm__law_signs) (sc := defScope s__law_signs) (own := [("_law_sign", 5)]) rfl nd (pim_val (pem_var (i := 1))) (by decide +kernel) rfl rfl (fun _ _ _ _ _ => (pgt_name (j := 5) nd)) (fun _ _ _ _ _ => (ptsm_one (ptm_eqG (op_eqP hr.units) viewE viewE ((PEm.x (pem_call C.f__law_draw hr pass0 (pam_cons (pem_var (i := 0)) (pam_cons pem_int pam_nil))))) ((PEm.x pem_int)) (nomark _)))) (fun _ _ _ _ _ => (pem_var (i := 5))) (by decide))
    (pssm_one (psm_ret (pem_join lvE pem_cs ((PEm.x (pem_op opm_plus (pem_var (i := 4)) (pem_op opm_times (pem_new (plm_lst (pam_cons (pem_ix (pem_var (i := 1)) (pem_var (i := 3))) pam_nil))) (pem_t1 unm_int B.b_int (pem_eqG (op_eqP hr.units) viewE viewL ((PEm.x (pem_var (i := 4)))) ((PLm.x (plm_lst pam_nil))) (nomark _)))))))))))))))))
theorem o__law_flat {n : Nat} {f : Addr} {fd : FuncData} (B : Bl mg) (G : Gs mg) (Zc : Zs K w mg) (C : Fds P w K mg base n) (F : D__law_flat K f fd) : FnOk P w K mg base CX0 (n + 1) f fd ["_law_parts", "_law_word"] (spI K (Fn (n + 1) 34)) := by
  have nd := sc__law_flat.nd
  rw [fn__law_flat]
  refine @fn_md P w K mg base "_law_flat" "_law_flat" s__law_flat f fd nm__law_flat ["_law_parts", "_law_word"] n (b__law_flat (Fn n)) F sc__law_flat (fun cdv A outer s H E hr => ?_)
  unfold b__law_flat
  exact (pssm_cons (psm_asg (pgt_name (j := 2) nd) (pem_new (plm_lst pam_nil)))
    (pssm_cons (psm_for PassesOwn.never rfl (pim_val (pem_var (i := 0))) (pgt_name (j := 3) nd) (pssm_one (psm_if (ptm_eqG (op_eqP hr.units) viewE viewE ((PEm.x (pem_ix (pem_var (i := 3)) pem_int))) ((PEm.x (pem_var (i := 1)))) (nomark _)) (pssm_one (psm_asg (pgt_name (j := 2) nd) (pem_new (plm_cat lvE lvL ((PEm.x (pem_var (i := 2)))) ((PLm.x (plm_list B.b_list (pem_ix (pem_var (i := 3)) pem_int)))))))) (pssm_one (psm_app (pem_var (i := 2)) (pem_var (i := 3)))))))
    (pssm_one (psm_ret (pem_var (i := 2))))))
theorem o__law_form {n : Nat} {f : Addr} {fd : FuncData} (B : Bl mg) (G : Gs mg) (Zc : Zs K w mg) (C : Fds P w K mg base n) (F : D__law_form K f fd) : FnOk P w K mg base CX0 (n + 1) f fd ["_law_deck_here", "_law_left", "_law_deep", "_law_names_here"] (spI K (Fn (n + 1) 12)) := by
  have nd := sc__law_form.nd
  rw [fn__law_form]
  refine @fn_md P w K mg base "_law_form" "_law_form" s__law_form f fd nm__law_form ["_law_deck_here", "_law_left", "_law_deep", "_law_names_here"] n (b__law_form (Fn n)) F sc__law_form (fun cdv A outer s H E hr => ?_)
  unfold b__law_form
  exact (pssm_cons (psm_asg (pgt_name (j := 4) nd) (pem_call C.f__law_draw hr pass0 (pam_cons (pem_var (i := 0)) (pam_cons pem_int pam_nil))))
    (pssm_cons (psm_asg (pgt_name (j := 5) nd) (pem_ix (pem_new (plm_lst (pam_cons pem_int (pam_cons pem_int (pam_cons pem_int (pam_cons pem_int pam_nil)))))) (pem_call C.f__law_draw hr pass0 (pam_cons (pem_var (i := 0)) (pam_cons pem_int pam_nil)))))
    (pssm_cons (psm_asg (pgt_name (j := 6) nd) (pem_ix (pem_new (plm_lst (pam_cons (pem_tup (pam_cons pem_int (pam_cons pem_int pam_nil))) (pam_cons (pem_tup (pam_cons pem_int (pam_cons pem_non pam_nil))) (pam_cons (pem_tup (pam_cons pem_int (pam_cons pem_non pam_nil))) pam_nil))))) (pem_call C.f__law_draw hr pass0 (pam_cons (pem_var (i := 0)) (pam_cons pem_int pam_nil)))))
    (pssm_cons (psm_asg (pgt_name (j := 7) nd) (pem_call C.f__law_signs hr pass0 (pam_cons (pem_var (i := 0)) pam_nil)))
    (pssm_cons (psm_if (ptm_eqG (op_eqP hr.units) viewE viewE ((PEm.x (pem_var (i := 4)))) ((PEm.x pem_int)) (nomark _)) (pssm_one (psm_ret (pem_tup (pam_cons pem_cs (pam_cons (pem_tup pam_nil) pam_nil))))) pssm_nil)
    (pssm_cons (psm_if (ptm_w (pwm_or (ptm_cmp tsm_lt (pem_var (i := 4)) pem_int) (pwm_or (ptm_cmp tsm_lt (pem_var (i := 2)) pem_int) (pwm_or1 (ptm_cmp tsm_lt (pem_ix (pem_var (i := 1)) pem_int) pem_int))))) (pssm_one (psm_ret (pem_tup (pam_cons pem_cs (pam_cons (pem_var (i := 7)) pam_nil))))) pssm_nil)
    (pssm_cons (psm_if (ptm_cmp tsm_gt (pem_var (i := 4)) pem_int) (pssm_cons (psm_sub (pem_op opm_sub (pem_ix (pem_var (i := 1)) pem_int) pem_int) (pem_var (i := 1)) pem_int)
    (pssm_one (psm_ret (pem_tup (pam_cons pem_cs (pam_cons (pem_ix (pem_var (i := 3)) (pem_call C.f__law_draw hr pass0 (pam_cons (pem_var (i := 0)) (pam_cons (pem_b1 unm_len B.b_len (pem_var (i := 3))) pam_nil)))) (pam_cons (pem_call C.f__law_form hr pass0 (pam_cons (pem_var (i := 0)) (pam_cons (pem_var (i := 1)) (pam_cons (pem_op opm_sub (pem_var (i := 2)) pem_int) (pam_cons (pem_var (i := 3)) pam_nil))))) pam_nil))))))) pssm_nil)
    (pssm_cons (psm_if (ptm_cmp tsm_gt (pem_var (i := 4)) pem_int) (pssm_cons (psm_sub (pem_op opm_sub (pem_ix (pem_var (i := 1)) pem_int) pem_int) (pem_var (i := 1)) pem_int)
    (pssm_one (psm_ret (pem_tup (pam_cons pem_cs (pam_cons (pem_ix (pem_var (i := 6)) pem_int) (pam_cons (pem_ix (pem_var (i := 6)) pem_int) (pam_cons (pem_call C.f__law_form hr pass0 (pam_cons (pem_var (i := 0)) (pam_cons (pem_var (i := 1)) (pam_cons (pem_op opm_sub (pem_var (i := 2)) pem_int) (pam_cons (pem_var (i := 3)) pam_nil))))) pam_nil)))))))) pssm_nil)
    (pssm_cons (psm_sub (pem_op opm_sub (pem_ix (pem_var (i := 1)) pem_int) (pem_var (i := 5))) (pem_var (i := 1)) pem_int)
    (pssm_cons (psm_asg (pgt_name (j := 8) nd) (pem_ix (pem_new (plm_lst (pam_cons pem_cs (pam_cons pem_cs pam_nil)))) (pem_op opm_mod (pem_var (i := 4)) pem_int)))
    (pssm_cons (psm_asg (pgt_name (j := 9) nd) (pem_call C.f__law_flat hr pass0 (pam_cons (pem_new (plm_lc (N := nm__law_form) (sc := defScope s__law_form) (own := [("_law_k", 10)]) rfl nd (pim_range1 B.b_range (pem_var (i := 5))) (by decide +kernel) rfl rfl (fun _ _ _ _ _ => (pgt_name (j := 10) nd)) (fun _ _ _ _ _ => ptsm_nil) (fun _ _ _ _ _ => (pem_call C.f__law_form hr pass0 (pam_cons (pem_var (i := 0)) (pam_cons (pem_var (i := 1)) (pam_cons (pem_op opm_sub (pem_var (i := 2)) pem_int) (pam_cons (pem_var (i := 3)) pam_nil)))))) (by decide))) (pam_cons (pem_var (i := 8)) pam_nil))))
    (pssm_cons (psm_if (ptm_eqG (op_eqP hr.units) viewE viewE ((PEm.x (pem_b1 unm_len B.b_len (pem_var (i := 9))))) ((PEm.x pem_int)) (nomark _)) (pssm_one (psm_ret (pem_ix (pem_var (i := 9)) pem_int))) pssm_nil)
    (pssm_cons (psm_if (ptm_w (pwm_and (ptm_eqG (op_eqP hr.units) viewE viewL ((PEm.x (pem_var (i := 9)))) ((PLm.x (plm_lst pam_nil))) (nomark _)) (pwm_and1 (ptm_eqG (op_eqP hr.units) viewE viewE ((PEm.x (pem_var (i := 8)))) ((PEm.x pem_cs)) (nomark _))))) (pssm_one (psm_ret (pem_tup (pam_cons pem_cs (pam_cons (pem_var (i := 7)) pam_nil))))) pssm_nil)
    (pssm_one (psm_ret (pem_tup (pam_cons (pem_var (i := 8)) (pam_cons (pem_t1 unm_tup B.b_tuple (pem_var (i := 9))) pam_nil))))))))))))))))))
theorem o__law_pattern {n : Nat} {f : Addr} {fd : FuncData} (B : Bl mg) (G : Gs mg) (Zc : Zs K w mg) (C : Fds P w K mg base n) (F : D__law_pattern K f fd) : FnOk P w K mg base CX0 (n + 1) f fd ["_law_deck_here", "_law_most", "_law_deep"] (spI K (Fn (n + 1) 35)) := by
  have nd := sc__law_pattern.nd
  rw [fn__law_pattern]
  refine @fn_md P w K mg base "_law_pattern" "_law_pattern" s__law_pattern f fd nm__law_pattern ["_law_deck_here", "_law_most", "_law_deep"] n (b__law_pattern (Fn n)) F sc__law_pattern (fun cdv A outer s H E hr => ?_)
  unfold b__law_pattern
  exact (pssm_cons (psm_asg (pgt_name (j := 3) nd) (pem_call C.f__law_names hr pass0 (pam_cons (pem_var (i := 0)) (pam_cons (pem_op opm_plus pem_int (pem_call C.f__law_draw hr pass0 (pam_cons (pem_var (i := 0)) (pam_cons pem_int pam_nil)))) pam_nil))))
    (pssm_one (psm_ret (pem_call C.f__law_form hr pass0 (pam_cons (pem_var (i := 0)) (pam_cons (pem_new (plm_lst (pam_cons (pem_call C.f__law_draw hr pass0 (pam_cons (pem_var (i := 0)) (pam_cons (pem_var (i := 1)) pam_nil))) pam_nil))) (pam_cons (pem_op opm_plus pem_int (pem_call C.f__law_draw hr pass0 (pam_cons (pem_var (i := 0)) (pam_cons (pem_var (i := 2)) pam_nil)))) (pam_cons (pem_var (i := 3)) pam_nil))))))))
theorem o__law_written {n : Nat} {f : Addr} {fd : FuncData} (B : Bl mg) (G : Gs mg) (Zc : Zs K w mg) (C : Fds P w K mg base n) (F : D__law_written K f fd) : FnOk P w K mg base CX0 (n + 1) f fd ["_law_form_here"] (spI K (Fn (n + 1) 61)) := by
  have nd := sc__law_written.nd
  rw [fn__law_written]
  refine @fn_md P w K mg base "_law_written" "_law_written" s__law_written f fd nm__law_written ["_law_form_here"] n (b__law_written (Fn n)) F sc__law_written (fun cdv A outer s H E hr => ?_)
  unfold b__law_written
  exact (pssm_cons (psm_if (ptm_eqG (op_eqP hr.units) viewE viewE ((PEm.x (pem_ix (pem_var (i := 0)) pem_int))) ((PEm.x pem_cs)) (nomark _)) (pssm_cons (psm_if (ptm_eqG (op_eqP hr.units) viewE viewE ((PEm.x (pem_ix (pem_var (i := 0)) pem_int))) ((PEm.x pem_cs)) (nomark _)) (pssm_one (psm_ret pem_cs)) pssm_nil)
    (pssm_cons (psm_if (ptm_eqG (op_eqP hr.units) viewE viewE ((PEm.x (pem_b1 unm_len B.b_len (pem_ix (pem_var (i := 0)) pem_int)))) ((PEm.x pem_int)) (nomark _)) (pssm_one (psm_ret (pem_ix (pem_var (i := 0)) pem_int))) pssm_nil)
    (pssm_one (psm_ret (pem_op opm_plus (pem_op opm_plus pem_cs (pem_ix (pem_var (i := 0)) pem_int)) pem_cs))))) pssm_nil)
    (pssm_cons (psm_if (ptm_eqG (op_eqP hr.units) viewE viewE ((PEm.x (pem_ix (pem_var (i := 0)) pem_int))) ((PEm.x pem_cs)) (nomark _)) (pssm_one (psm_ret (pem_op opm_plus (pem_op opm_plus (pem_op opm_plus (pem_op opm_plus pem_cs (pem_ix (pem_var (i := 0)) pem_int)) pem_cs) (pem_call C.f__law_written hr pass0 (pam_cons (pem_ix (pem_var (i := 0)) pem_int) pam_nil))) pem_cs))) pssm_nil)
    (pssm_cons (psm_if (ptm_eqG (op_eqP hr.units) viewE viewE ((PEm.x (pem_ix (pem_var (i := 0)) pem_int))) ((PEm.x pem_cs)) (nomark _)) (pssm_cons (psm_asg (pgt_name (j := 1) nd) (pem_dispIx (room66 hr) (ppn_cons (pem_tup (pam_cons pem_int (pam_cons pem_int pam_nil))) pem_cs (ppn_cons (pem_tup (pam_cons pem_int (pam_cons pem_non pam_nil))) pem_cs (ppn_cons (pem_tup (pam_cons pem_int (pam_cons pem_non pam_nil))) pem_cs ppn_nil))) (pem_slice (pem_var (i := 0)) (pom_some pem_int) (pom_some pem_int)) (by decide)))
    (pssm_cons (psm_if (ptm_w (pwm_or (ptm_eqG (op_eqP hr.units) viewE viewE ((PEm.x (pem_ix (pem_ix (pem_var (i := 0)) pem_int) pem_int))) ((PEm.x pem_cs)) (nomark _)) (pwm_or1 (ptm_eqG (op_eqP hr.units) viewE viewE ((PEm.x (pem_ix (pem_ix (pem_var (i := 0)) pem_int) pem_int))) ((PEm.x pem_cs)) (nomark _))))) (pssm_one (psm_ret (pem_op opm_plus (pem_call C.f__law_written hr pass0 (pam_cons (pem_ix (pem_var (i := 0)) pem_int) pam_nil)) (pem_var (i := 1))))) pssm_nil)
    (pssm_one (psm_ret (pem_op opm_plus (pem_op opm_plus (pem_op opm_plus pem_cs (pem_call C.f__law_written hr pass0 (pam_cons (pem_ix (pem_var (i := 0)) pem_int) pam_nil))) pem_cs) (pem_var (i := 1))))))) pssm_nil)
    (pssm_cons (psm_asg (pgt_name (j := 2) nd) (pem_new (plm_lst pam_nil)))
    (pssm_cons (psm_for PassesOwn.never rfl (pim_val (pem_ix (pem_var (i := 0)) pem_int)) (pgt_name (j := 3) nd) (pssm_cons (psm_asg (pgt_name (j := 4) nd) (pem_call C.f__law_written hr pass0 (pam_cons (pem_var (i := 3)) pam_nil)))
    (pssm_cons (psm_if (ptm_w (pwm_and (ptm_eqG (op_eqP hr.units) viewE viewE ((PEm.x (pem_ix (pem_var (i := 0)) pem_int))) ((PEm.x pem_cs)) (nomark _)) (pwm_and1 (ptm_eqG (op_eqP hr.units) viewE viewE ((PEm.x (pem_ix (pem_var (i := 3)) pem_int))) ((PEm.x pem_cs)) (nomark _))))) (pssm_one (psm_asg (pgt_name (j := 4) nd) (pem_op opm_plus (pem_op opm_plus pem_cs (pem_var (i := 4))) pem_cs))) pssm_nil)
    (pssm_one (psm_app (pem_var (i := 2)) (pem_var (i := 4)))))))
    (pssm_one (psm_ret (pem_join lvE (pem_ix (pem_new (plm_lst (pam_cons pem_cs (pam_cons pem_cs pam_nil)))) (pem_t1 unm_int B.b_int (pem_eqG (op_eqP hr.units) viewE viewE ((PEm.x (pem_ix (pem_var (i := 0)) pem_int))) ((PEm.x pem_cs)) (nomark _)))) ((PEm.x (pem_var (i := 2))))))))))))
theorem o__law_right {n : Nat} {f : Addr} {fd : FuncData} (B : Bl mg) (G : Gs mg) (Zc : Zs K w mg) (C : Fds P w K mg base n) (F : D__law_right K f fd) : FnG P w K mg base CX0 (n + 1) f fd ["_law_pattern_here"] (spI K (Fn (n + 1) 18)) := by
  have nd := sc__law_right.nd
  rw [fn__law_right]
  refine @fn_mdG P w K mg base "_law_right" "_law_right" s__law_right f fd nm__law_right ["_law_pattern_here"] n (b__law_right (Fn n)) F sc__law_right (fun cdv A outer s H E hr hG => ?_)
  unfold b__law_right
  exact (pssm_cons (psm_asg (pgt_name (j := 1) nd) (pem_b1 (unm_repr hG (room66 hr)) B.b_repr (pem_var (i := 0))))
    (pssm_cons (psm_asg (pgt_name (j := 2) nd) (pem_call C.f_write hr pass0 (pam_cons (pem_var (i := 0)) pam_nil)))
    (pssm_one (psm_ret (pem_andV (pem_isi (T := "str") (by decide) B.b_isinstance B.b_str (pem_var (i := 2))) (pem_andV (pem_eqG (op_eqP hr.units) viewE viewE ((PEm.x (pem_var (i := 2)))) ((PEm.x (pem_call C.f__law_written hr pass0 (pam_cons (pem_var (i := 0)) pam_nil)))) (nomark _)) (pem_one (pem_eqG (op_eqP hr.units) viewE viewE ((PEm.x (pem_b1 (unm_repr hG (room66 hr)) B.b_repr (pem_var (i := 0))))) ((PEm.x (pem_var (i := 1)))) (nomark _)))))))))
theorem o_law {n : Nat} {f : Addr} {fd : FuncData} (B : Bl mg) (G : Gs mg) (Zc : Zs K w mg) (C : Fds P w K mg base n) (F : D_law K f fd) : FnG P w K mg base CX0 (n + 1) f fd ["_law_script"] (spI K (Fn (n + 1) 19)) := by
  have nd := sc_law.nd
  rw [fn_law]
  refine @fn_mdG P w K mg base "law" "law" s_law f fd nm_law ["_law_script"] n (b_law (Fn n)) F sc_law (fun cdv A outer s H E hr hG => ?_)
  unfold b_law
  exact (pssm_cons (psm_asg (pgt_name (j := 1) nd) (pem_call C.f__law_deck hr pass0 (pam_cons (pem_var (i := 0)) pam_nil)))
    (pssm_cons (psm_setLc (N := nm_law) (sc := defScope s_law) (own := [("_law_k", 3)]) rfl nd (pim_range1 B.b_range pem_int) (by decide +kernel) rfl rfl (fun _ _ _ _ _ => (pgt_name (j := 3) nd)) (fun _ _ _ _ _ => ptsm_nil) (fun _ _ _ _ _ => (pem_call C.f__law_pattern hr pass0 (pam_cons (pem_var (i := 1)) (pam_cons pem_int (pam_cons pem_int pam_nil))))) (by decide))
    (pssm_one (psm_ret (pem_eqG (op_eqP hr.units) viewL viewL ((PLm.x (plm_lc (N := nm_law) (sc := defScope s_law) (own := [("_law_pattern_here", 4)]) rfl nd (pim_val (pem_op opm_plus (pem_var (i := 2)) (pem_revA (pem_var (i := 2))))) (by decide +kernel) rfl rfl (fun _ _ _ _ _ => (pgt_name (j := 4) nd)) (fun _ _ _ _ _ => (ptsm_one (ptm_not (ptm_tru (pem_callG C.f__law_right hr hG pass0 (pam_cons (pem_var (i := 4)) pam_nil)))))) (fun _ _ _ _ _ => (pem_var (i := 4))) (by decide)))) ((PLm.x (plm_lst pam_nil))) (nomark _))))))
theorem all {f0 f1 f2 f3 f4 f5 f6 f7 f8 f9 f10 f11 f12 f13 : Addr} {fd0 fd1 fd2 fd3 fd4 fd5 fd6 fd7 fd8 fd9 fd10 fd11 fd12 fd13 : FuncData} (B : Bl mg) (G : Gs mg) (Zc : Zs K w mg) (hf0 : mg "sign_text" = some (.ref f0)) (F0 : D_sign_text K f0 fd0) (hf1 : mg "within" = some (.ref f1)) (F1 : D_within K f1 fd1) (hf2 : mg "write" = some (.ref f2)) (F2 : D_write K f2 fd2) (hf3 : mg "_law_deck" = some (.ref f3)) (F3 : D__law_deck K f3 fd3) (hf4 : mg "_law_draw" = some (.ref f4)) (F4 : D__law_draw K f4 fd4) (hf5 : mg "_law_letters" = some (.ref f5)) (F5 : D__law_letters K f5 fd5) (hf6 : mg "_law_names" = some (.ref f6)) (F6 : D__law_names K f6 fd6) (hf7 : mg "_law_signs" = some (.ref f7)) (F7 : D__law_signs K f7 fd7) (hf8 : mg "_law_flat" = some (.ref f8)) (F8 : D__law_flat K f8 fd8) (hf9 : mg "_law_form" = some (.ref f9)) (F9 : D__law_form K f9 fd9) (hf10 : mg "_law_pattern" = some (.ref f10)) (F10 : D__law_pattern K f10 fd10) (hf11 : mg "_law_written" = some (.ref f11)) (F11 : D__law_written K f11 fd11) (hf12 : mg "_law_right" = some (.ref f12)) (F12 : D__law_right K f12 fd12) (hf13 : mg "law" = some (.ref f13)) (F13 : D_law K f13 fd13) : ∀ n, Fds P w K mg base n
  | 0 => by
    have b0 : Binds K fd0 ["signs"] [] := F0.bindsN fun _ _ _ _ _ _ us hl => match us, hl with | [_], _ => rfl
    have b1 : Binds K fd1 ["pattern", "words"] [] := F1.bindsN fun _ _ _ _ _ _ us hl => match us, hl with | [_, _], _ => rfl
    have b2 : Binds K fd2 ["pattern"] [] := F2.bindsN fun _ _ _ _ _ _ us hl => match us, hl with | [_], _ => rfl
    have b3 : Binds K fd3 ["_law_script"] [] := F3.bindsN fun _ _ _ _ _ _ us hl => match us, hl with | [_], _ => rfl
    have b4 : Binds K fd4 ["_law_deck_here", "_law_many"] [] := F4.bindsN fun _ _ _ _ _ _ us hl => match us, hl with | [_, _], _ => rfl
    have b5 : Binds K fd5 ["_law_deck_here", "_law_many"] [] := F5.bindsN fun _ _ _ _ _ _ us hl => match us, hl with | [_, _], _ => rfl
    have b6 : Binds K fd6 ["_law_deck_here", "_law_many"] [] := F6.bindsN fun _ _ _ _ _ _ us hl => match us, hl with | [_, _], _ => rfl
    have b7 : Binds K fd7 ["_law_deck_here"] [] := F7.bindsN fun _ _ _ _ _ _ us hl => match us, hl with | [_], _ => rfl
    have b8 : Binds K fd8 ["_law_parts", "_law_word"] [] := F8.bindsN fun _ _ _ _ _ _ us hl => match us, hl with | [_, _], _ => rfl
    have b9 : Binds K fd9 ["_law_deck_here", "_law_left", "_law_deep", "_law_names_here"] [] := F9.bindsN fun _ _ _ _ _ _ us hl => match us, hl with | [_, _, _, _], _ => rfl
    have b10 : Binds K fd10 ["_law_deck_here", "_law_most", "_law_deep"] [] := F10.bindsN fun _ _ _ _ _ _ us hl => match us, hl with | [_, _, _], _ => rfl
    have b11 : Binds K fd11 ["_law_form_here"] [] := F11.bindsN fun _ _ _ _ _ _ us hl => match us, hl with | [_], _ => rfl
    have b12 : Binds K fd12 ["_law_pattern_here"] [] := F12.bindsN fun _ _ _ _ _ _ us hl => match us, hl with | [_], _ => rfl
    have b13 : Binds K fd13 ["_law_script"] [] := F13.bindsN fun _ _ _ _ _ _ us hl => match us, hl with | [_], _ => rfl
    exact ⟨⟨f0, fd0, _, fn_m0, hf0, F0.kp, b0⟩, ⟨f1, fd1, _, fn_m0, hf1, F1.kp, b1⟩, ⟨f2, fd2, _, fn_m0, hf2, F2.kp, b2⟩, ⟨f3, fd3, _, fn_m0, hf3, F3.kp, b3⟩, ⟨f4, fd4, _, fn_m0, hf4, F4.kp, b4⟩, ⟨f5, fd5, _, fn_m0, hf5, F5.kp, b5⟩, ⟨f6, fd6, _, fn_m0, hf6, F6.kp, b6⟩, ⟨f7, fd7, _, fn_m0, hf7, F7.kp, b7⟩, ⟨f8, fd8, _, fn_m0, hf8, F8.kp, b8⟩, ⟨f9, fd9, _, fn_m0, hf9, F9.kp, b9⟩, ⟨f10, fd10, _, fn_m0, hf10, F10.kp, b10⟩, ⟨f11, fd11, _, fn_m0, hf11, F11.kp, b11⟩, ⟨f12, fd12, _, (FnG.of fn_m0), hf12, F12.kp, b12⟩, ⟨f13, fd13, _, (FnG.of fn_m0), hf13, F13.kp, b13⟩⟩
  | n + 1 => by
    have b0 : Binds K fd0 ["signs"] [] := F0.bindsN fun _ _ _ _ _ _ us hl => match us, hl with | [_], _ => rfl
    have b1 : Binds K fd1 ["pattern", "words"] [] := F1.bindsN fun _ _ _ _ _ _ us hl => match us, hl with | [_, _], _ => rfl
    have b2 : Binds K fd2 ["pattern"] [] := F2.bindsN fun _ _ _ _ _ _ us hl => match us, hl with | [_], _ => rfl
    have b3 : Binds K fd3 ["_law_script"] [] := F3.bindsN fun _ _ _ _ _ _ us hl => match us, hl with | [_], _ => rfl
    have b4 : Binds K fd4 ["_law_deck_here", "_law_many"] [] := F4.bindsN fun _ _ _ _ _ _ us hl => match us, hl with | [_, _], _ => rfl
    have b5 : Binds K fd5 ["_law_deck_here", "_law_many"] [] := F5.bindsN fun _ _ _ _ _ _ us hl => match us, hl with | [_, _], _ => rfl
    have b6 : Binds K fd6 ["_law_deck_here", "_law_many"] [] := F6.bindsN fun _ _ _ _ _ _ us hl => match us, hl with | [_, _], _ => rfl
    have b7 : Binds K fd7 ["_law_deck_here"] [] := F7.bindsN fun _ _ _ _ _ _ us hl => match us, hl with | [_], _ => rfl
    have b8 : Binds K fd8 ["_law_parts", "_law_word"] [] := F8.bindsN fun _ _ _ _ _ _ us hl => match us, hl with | [_, _], _ => rfl
    have b9 : Binds K fd9 ["_law_deck_here", "_law_left", "_law_deep", "_law_names_here"] [] := F9.bindsN fun _ _ _ _ _ _ us hl => match us, hl with | [_, _, _, _], _ => rfl
    have b10 : Binds K fd10 ["_law_deck_here", "_law_most", "_law_deep"] [] := F10.bindsN fun _ _ _ _ _ _ us hl => match us, hl with | [_, _, _], _ => rfl
    have b11 : Binds K fd11 ["_law_form_here"] [] := F11.bindsN fun _ _ _ _ _ _ us hl => match us, hl with | [_], _ => rfl
    have b12 : Binds K fd12 ["_law_pattern_here"] [] := F12.bindsN fun _ _ _ _ _ _ us hl => match us, hl with | [_], _ => rfl
    have b13 : Binds K fd13 ["_law_script"] [] := F13.bindsN fun _ _ _ _ _ _ us hl => match us, hl with | [_], _ => rfl
    have C := all B G Zc hf0 F0 hf1 F1 hf2 F2 hf3 F3 hf4 F4 hf5 F5 hf6 F6 hf7 F7 hf8 F8 hf9 F9 hf10 F10 hf11 F11 hf12 F12 hf13 F13 n
    exact ⟨⟨f0, fd0, _, o_sign_text B G Zc C F0, hf0, F0.kp, b0⟩, ⟨f1, fd1, _, o_within B G Zc C F1, hf1, F1.kp, b1⟩, ⟨f2, fd2, _, o_write B G Zc C F2, hf2, F2.kp, b2⟩, ⟨f3, fd3, _, o__law_deck B G Zc C F3, hf3, F3.kp, b3⟩, ⟨f4, fd4, _, o__law_draw B G Zc C F4, hf4, F4.kp, b4⟩, ⟨f5, fd5, _, o__law_letters B G Zc C F5, hf5, F5.kp, b5⟩, ⟨f6, fd6, _, o__law_names B G Zc C F6, hf6, F6.kp, b6⟩, ⟨f7, fd7, _, o__law_signs B G Zc C F7, hf7, F7.kp, b7⟩, ⟨f8, fd8, _, o__law_flat B G Zc C F8, hf8, F8.kp, b8⟩, ⟨f9, fd9, _, o__law_form B G Zc C F9, hf9, F9.kp, b9⟩, ⟨f10, fd10, _, o__law_pattern B G Zc C F10, hf10, F10.kp, b10⟩, ⟨f11, fd11, _, o__law_written B G Zc C F11, hf11, F11.kp, b11⟩, ⟨f12, fd12, _, o__law_right B G Zc C F12, hf12, F12.kp, b12⟩, ⟨f13, fd13, _, o_law B G Zc C F13, hf13, F13.kp, b13⟩⟩
end
end Mx.K07

set_option linter.all false
set_option maxRecDepth 100000
set_option maxHeartbeats 0
namespace Mx.K07
open PySem PySem.Spec PyProof.Rows L2 Mx
def dd_sign_text : He.DefD := ⟨("sign_text", none), "sign_text", "sign_text", defArgs s_sign_text, defBody s_sign_text, defScope s_sign_text, [], []⟩
def dd_within : He.DefD := ⟨("within", none), "within", "within", defArgs s_within, defBody s_within, defScope s_within, [], []⟩
def dd_write : He.DefD := ⟨("write", none), "write", "write", defArgs s_write, defBody s_write, defScope s_write, [], []⟩
def dd__law_deck : He.DefD := ⟨("_law_deck", none), "_law_deck", "_law_deck", defArgs s__law_deck, defBody s__law_deck, defScope s__law_deck, [], []⟩
def dd__law_draw : He.DefD := ⟨("_law_draw", none), "_law_draw", "_law_draw", defArgs s__law_draw, defBody s__law_draw, defScope s__law_draw, [], []⟩
def dd__law_letters : He.DefD := ⟨("_law_letters", none), "_law_letters", "_law_letters", defArgs s__law_letters, defBody s__law_letters, defScope s__law_letters, [], []⟩
def dd__law_names : He.DefD := ⟨("_law_names", none), "_law_names", "_law_names", defArgs s__law_names, defBody s__law_names, defScope s__law_names, [], []⟩
def dd__law_signs : He.DefD := ⟨("_law_signs", none), "_law_signs", "_law_signs", defArgs s__law_signs, defBody s__law_signs, defScope s__law_signs, [], []⟩
def dd__law_flat : He.DefD := ⟨("_law_flat", none), "_law_flat", "_law_flat", defArgs s__law_flat, defBody s__law_flat, defScope s__law_flat, [], []⟩
def dd__law_form : He.DefD := ⟨("_law_form", none), "_law_form", "_law_form", defArgs s__law_form, defBody s__law_form, defScope s__law_form, [], []⟩
def dd__law_pattern : He.DefD := ⟨("_law_pattern", none), "_law_pattern", "_law_pattern", defArgs s__law_pattern, defBody s__law_pattern, defScope s__law_pattern, [], []⟩
def dd__law_written : He.DefD := ⟨("_law_written", none), "_law_written", "_law_written", defArgs s__law_written, defBody s__law_written, defScope s__law_written, [], []⟩
def dd__law_right : He.DefD := ⟨("_law_right", none), "_law_right", "_law_right", defArgs s__law_right, defBody s__law_right, defScope s__law_right, [], []⟩
def dd_law : He.DefD := ⟨("law", none), "law", "law", defArgs s_law, defBody s_law, defScope s_law, [], []⟩
def fn : List He.DefD := [dd_sign_text, dd_within, dd_write, dd__law_deck, dd__law_draw, dd__law_letters, dd__law_names, dd__law_signs, dd__law_flat, dd__law_form, dd__law_pattern, dd__law_written, dd__law_right, dd_law]
def fa : List He.Fa := [.glo "sign_text", .glo "within", .glo "write", .glo "_law_deck", .glo "_law_draw", .glo "_law_letters", .glo "_law_names", .glo "_law_signs", .glo "_law_flat", .glo "_law_form", .glo "_law_pattern", .glo "_law_written", .glo "_law_right", .glo "law", .free "abs", .free "int", .free "isinstance", .free "len", .free "list", .free "range", .free "repr", .free "str", .free "tuple", .str "SIGNS" (Str.ofString " abcdefghijklmnopqrstuvwxyz"), .glo "COUNTS"]
abbrev R : PySem.W.OpenRow := PySem.W.OpenLaw.row PySem.Challenge.rw_markpieces_k07_patterns_written
def ts : List He.Tab := []
def ex (K : PySem.W.Frag) : Bool := dictNB "COUNTS" cn_COUNTS K
abbrev hk : PySem.W.Hook := hookK 6 fa fn ts ex
def ob (s : PySem.W.SharedT) : He.AlX := obsK 6 fa fn ts ex (HandSHeadRun.getT s)
theorem ob_eq (s : PySem.W.SharedT) : ob s = hk.obs s.abs := obsK_eq (HandSHeadRun.getT_eq s)
def loose0 : List Str := ["LETTERS", "SIGNS", "COUNTS", "sign_text", "within", "write", "_law_deck", "_law_draw", "_law_letters", "_law_names", "_law_signs", "_law_flat", "_law_form", "_law_pattern", "_law_written", "_law_right"]
abbrev loose : List Str := loose0
theorem run1 (w : World) : HandSHeadRun.RunEq R (PySem.W.view R.prog [18]) hk ob 2000 loose (w.withFollow "special-get-raises" false) := by
  intro os
  kernel_rfl
theorem run2 (w : World) : HandSHeadRun.RunEq R (PySem.W.view R.prog [18]) hk ob 2000 loose (w.withFollow "special-get-raises" true) := by
  intro os
  kernel_rfl
theorem run (w : World) : HandSHeadRun.RunEq R (PySem.W.view R.prog [18]) hk ob 2000 loose w :=
  PySem.W.byRow2 "special-get-raises" (P := fun w => HandSHeadRun.RunEq R (PySem.W.view R.prog [18]) hk ob 2000 loose w) run1 run2 w
theorem facts {P : Program} {w : World} {K : PySem.W.Frag} {h h0 : Heap} {mg : Str → Option Value} {f : Addr} (X : K.In h) (G : h.Ns mainGlobals mg) (hfa : mg ("law" : Str) = some (.ref f)) (cx : He.SaysX fa fn ts [] ex w h0 K) :
    ∃ fd : FuncData, (∀ (s : Shared) (v : Value), BindsTo s fd ⟨[v], []⟩ [("_law_script", v)]) ∧ ∀ base : Heap, K.In base → base.Ns mainGlobals mg → FnG P w K mg base CX0 60 f fd ["_law_script"] (spI K (Fn 60 19)) := by
  have c := cx.t.d
  obtain ⟨fd0, F0⟩ := c.def_ 0 (d := dd_sign_text) rfl
  obtain ⟨fd1, F1⟩ := c.def_ 1 (d := dd_within) rfl
  obtain ⟨fd2, F2⟩ := c.def_ 2 (d := dd_write) rfl
  obtain ⟨fd3, F3⟩ := c.def_ 3 (d := dd__law_deck) rfl
  obtain ⟨fd4, F4⟩ := c.def_ 4 (d := dd__law_draw) rfl
  obtain ⟨fd5, F5⟩ := c.def_ 5 (d := dd__law_letters) rfl
  obtain ⟨fd6, F6⟩ := c.def_ 6 (d := dd__law_names) rfl
  obtain ⟨fd7, F7⟩ := c.def_ 7 (d := dd__law_signs) rfl
  obtain ⟨fd8, F8⟩ := c.def_ 8 (d := dd__law_flat) rfl
  obtain ⟨fd9, F9⟩ := c.def_ 9 (d := dd__law_form) rfl
  obtain ⟨fd10, F10⟩ := c.def_ 10 (d := dd__law_pattern) rfl
  obtain ⟨fd11, F11⟩ := c.def_ 11 (d := dd__law_written) rfl
  obtain ⟨fd12, F12⟩ := c.def_ 12 (d := dd__law_right) rfl
  obtain ⟨fd13, F13⟩ := c.def_ 13 (d := dd_law) rfl
  have g0 : mg ("sign_text" : Str) = some (.ref (He.ga K "sign_text")) := He.glo_ok X G (c.fact 0 (f := .glo "sign_text") rfl)
  have g1 : mg ("within" : Str) = some (.ref (He.ga K "within")) := He.glo_ok X G (c.fact 1 (f := .glo "within") rfl)
  have g2 : mg ("write" : Str) = some (.ref (He.ga K "write")) := He.glo_ok X G (c.fact 2 (f := .glo "write") rfl)
  have g3 : mg ("_law_deck" : Str) = some (.ref (He.ga K "_law_deck")) := He.glo_ok X G (c.fact 3 (f := .glo "_law_deck") rfl)
  have g4 : mg ("_law_draw" : Str) = some (.ref (He.ga K "_law_draw")) := He.glo_ok X G (c.fact 4 (f := .glo "_law_draw") rfl)
  have g5 : mg ("_law_letters" : Str) = some (.ref (He.ga K "_law_letters")) := He.glo_ok X G (c.fact 5 (f := .glo "_law_letters") rfl)
  have g6 : mg ("_law_names" : Str) = some (.ref (He.ga K "_law_names")) := He.glo_ok X G (c.fact 6 (f := .glo "_law_names") rfl)
  have g7 : mg ("_law_signs" : Str) = some (.ref (He.ga K "_law_signs")) := He.glo_ok X G (c.fact 7 (f := .glo "_law_signs") rfl)
  have g8 : mg ("_law_flat" : Str) = some (.ref (He.ga K "_law_flat")) := He.glo_ok X G (c.fact 8 (f := .glo "_law_flat") rfl)
  have g9 : mg ("_law_form" : Str) = some (.ref (He.ga K "_law_form")) := He.glo_ok X G (c.fact 9 (f := .glo "_law_form") rfl)
  have g10 : mg ("_law_pattern" : Str) = some (.ref (He.ga K "_law_pattern")) := He.glo_ok X G (c.fact 10 (f := .glo "_law_pattern") rfl)
  have g11 : mg ("_law_written" : Str) = some (.ref (He.ga K "_law_written")) := He.glo_ok X G (c.fact 11 (f := .glo "_law_written") rfl)
  have g12 : mg ("_law_right" : Str) = some (.ref (He.ga K "_law_right")) := He.glo_ok X G (c.fact 12 (f := .glo "_law_right") rfl)
  have g13 : mg ("law" : Str) = some (.ref (He.ga K "law")) := He.glo_ok X G (c.fact 13 (f := .glo "law") rfl)
  have B : Bl mg := ⟨He.free_ok X G (c.fact 14 (f := .free "abs") rfl), He.free_ok X G (c.fact 15 (f := .free "int") rfl), He.free_ok X G (c.fact 16 (f := .free "isinstance") rfl), He.free_ok X G (c.fact 17 (f := .free "len") rfl), He.free_ok X G (c.fact 18 (f := .free "list") rfl), He.free_ok X G (c.fact 19 (f := .free "range") rfl), He.free_ok X G (c.fact 20 (f := .free "repr") rfl), He.free_ok X G (c.fact 21 (f := .free "str") rfl), He.free_ok X G (c.fact 22 (f := .free "tuple") rfl)⟩
  have Gc : Gs mg := ⟨He.str_ok X G (c.fact 23 (f := .str "SIGNS" (Str.ofString " abcdefghijklmnopqrstuvwxyz")) rfl)⟩
  have Zc : Zs K w mg := ⟨kdn_of (He.glo_ok X G (c.fact 24 (f := .glo "COUNTS") rfl)) (by have := cx.more; unfold ex at this; exact this)⟩
  have e := hfa.symm.trans g13
  cases e
  have b := FunD.bindsA (ps := ["_law_script"]) F13 fun _ _ _ _ _ _ us hl => match us, hl with | [_], _ => rfl
  refine ⟨fd13, fun s v => b s [v] rfl, fun base _ _ => ?_⟩
  exact o_law B Gc Zc (all B Gc Zc g0 F0 g1 F1 g2 F2 g3 F3 g4 F4 g5 F5 g6 F6 g7 F7 g8 F8 g9 F9 g10 F10 g11 F11 g12 F12 g13 F13 59) F13
end Mx.K07
open PySem PySem.W PySem.Calls PyProof.Rows
set_option maxRecDepth 100000 in
set_option maxHeartbeats 0 in
theorem PySem.Challenge.cw_markpieces_k07_patterns_written_holds : PySem.Challenge.rw_markpieces_k07_patterns_written.Holds := by
  w_on; o_law
  refine HandSHeadRun.head_any (r := OpenLaw.row PySem.Challenge.rw_markpieces_k07_patterns_written) (q := view (OpenLaw.row PySem.Challenge.rw_markpieces_k07_patterns_written).prog [18]) (H := Mx.K07.hk) (ob := Mx.K07.ob) (M := 2000) (loose := Mx.K07.loose) (d := HandSHeadRun.topDef (OpenLaw.row PySem.Challenge.rw_markpieces_k07_patterns_written).prog 18) (kwd := []) Mx.K07.ob_eq
    (by kernel_rfl) (fun s => by kernel_rfl) Mx.K07.run (by kernel_rfl) (by kernel_rfl) (by kernel_rfl) (by rfl) (by first | assumption | decide +kernel) (by decide +kernel) ⟨rfl, rfl, rfl, rfl, rfl, by decide +kernel⟩ ?hw ?hc
  case hw => w_witness2
  case hc =>
    refine Mx.walk_ofG (l := PySem.Challenge.rw_markpieces_k07_patterns_written) (n := 63) (k := 60) (x := "_law_script") (CX := L2.CX0) rfl (by decide) (by kernel_rfl) ⟨rfl, by decide, by decide⟩ ?F (fun _ _ _ _ z => z)
    intro w mg fa h Y G hmg0
    obtain ⟨K, KX, c⟩ := Y
    have hmg : mg ("law" : PySem.Str) = some (.ref fa) := by
      have e : (HandSHeadRun.topDef (OpenLaw.row PySem.Challenge.rw_markpieces_k07_patterns_written).prog 18).name = ("law" : PySem.Str) := by kernel_rfl
      rw [← e]
      exact hmg0
    obtain ⟨fd, hb, hF⟩ := Mx.K07.facts (P := (PySem.Challenge.rw_markpieces_k07_patterns_written).prog) (w := w) KX G hmg c
    exact ⟨K, fd, Mx.spI K (Mx.K07.Fn 60 19), KX, hb, fun H a ns hl hO hS => Mx.law_end (Mx.K07.law_true ns hl) hO hS, hF⟩
