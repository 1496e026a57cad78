import PyProof.Rows.All
import Wide.All
import OpenK.AllK
import Wide.FinOn
import HandS.ForMost
import HandS.Walk
import HandS.Exc
import HandS.ExcOwn
import HandS.TryOnly
import HandS.TryMany
import HandS.WordsExc
import HandS.CallSlots
import HandS.IsInst
import HandS.Zip
import HandS.Rev
import HandS.TupAny
import HandS.Wide
import HandS.SortInts
import KE.KTupSum
import KE.GoesEnum
import HandS.Flow
import HandS.NoneIn
import HandS.ExcIs
import HandS.ExcField
import PyProof.StrOps2
import PySem.Challenge.RW_tableauproved_k36_whole_hives_and_border
import KE.OsSort
set_option Elab.async false
set_option linter.all false
set_option maxRecDepth 100000
set_option maxHeartbeats 4000000
set_option autoImplicit false
/-! Tree layer, part 1: trees, what stands for them, how a heap grows. -/
namespace TLY
open PySem PySem.Spec PyProof.Rows L2

inductive T where
  | non | bl (b : Bool) | int (i : Int) | str (x : Str) | tup (l : List T) | lst (l : List T) | dct | ty (n : String) | pool
/-- what a slot or an answer holds: a tree that nobody changes; a list of its own; a list of its own of lists of its own -/
inductive S where
  | p (t : T) | l1 (l : List T) | l2 (l : List (List T))
def S.fz : S → T
  | .p t => t
  | .l1 l => .lst l
  | .l2 l => .lst (l.map .lst)
/-- an exception: its class, its own fields -/
structure Ex where
  cls : Addr
  fs : List (Str × T)
abbrev Sl := List (Option S)
def slotAt : Sl → Nat → Option S
  | [], _ => none
  | x :: _, 0 => x
  | _ :: r, i + 1 => slotAt r i
theorem slotAt_some : ∀ {e : Sl} {i : Nat} {s : S}, slotAt e i = some s → e[i]? = some (some s)
  | [], _, _, h => by simp [slotAt] at h
  | x :: r, 0, s, h => by simpa [slotAt] using h
  | x :: r, i + 1, s, h => by simpa using slotAt_some (e := r) (i := i) h

section
variable (K : PySem.W.Frag) (pa : Addr) (F : Hp)
mutual
inductive Rp : V → T → Prop
  | non : Rp .non .non
  | bl (b : Bool) : Rp (.bl b) (.bl b)
  | int (i : Int) : Rp (.int i) (.int i)
  | str (x : Str) : Rp (.str x) (.str x)
  | ty (n : String) : Rp (.ty n) (.ty n)
  | pool : Rp (.ref pa) .pool
  | dct {a : Addr} : F a = some (.dK []) → Rp (.ref a) .dct
  | tup {a : Addr} {vs : List V} {l : List T} : SqT K F a vs → Rps vs l → Rp (.ref a) (.tup l)
  | lst {a : Addr} {vs : List V} {l : List T} : F a = some (.lst vs) → Rps vs l → Rp (.ref a) (.lst l)
inductive Rps : List V → List T → Prop
  | nil : Rps [] []
  | cons {v : V} {vs : List V} {t : T} {l : List T} : Rp v t → Rps vs l → Rps (v :: vs) (t :: l)
end
end

theorem sameSqT {K : PySem.W.Frag} {H H' : Hp} {a : Addr} {xs : List V} (e : Same H H') (h : SqT K H a xs) : SqT K H' a xs := by
  rcases h with (h | ⟨o, h⟩) | h
  · exact .inl (.inl (e _ _ h))
  · exact .inl (.inr ⟨o, e _ _ h⟩)
  · exact .inr h
section
variable {K : PySem.W.Frag} {pa : Addr} {F F' : Hp}
mutual
theorem Rp.mono (e : Same F F') : ∀ {v : V} {t : T}, Rp K pa F v t → Rp K pa F' v t
  | _, _, .non => .non
  | _, _, .bl b => .bl b
  | _, _, .int i => .int i
  | _, _, .str x => .str x
  | _, _, .ty n => .ty n
  | _, _, .pool => .pool
  | _, _, .dct h => .dct (e _ _ h)
  | _, _, .tup h r => .tup (sameSqT e h) (Rps.mono e r)
  | _, _, .lst h r => .lst (e _ _ h) (Rps.mono e r)
theorem Rps.mono (e : Same F F') : ∀ {vs : List V} {l : List T}, Rps K pa F vs l → Rps K pa F' vs l
  | _, _, .nil => .nil
  | _, _, .cons h r => .cons (Rp.mono e h) (Rps.mono e r)
end
theorem Rps.length : ∀ {vs : List V} {l : List T}, Rps K pa F vs l → vs.length = l.length
  | _, _, .nil => rfl
  | _, _, .cons _ r => congrArg (· + 1) r.length
theorem Rps.append : ∀ {vs ws : List V} {l m : List T}, Rps K pa F vs l → Rps K pa F ws m → Rps K pa F (vs ++ ws) (l ++ m)
  | _, _, _, _, .nil, s => s
  | _, _, _, _, .cons h r, s => .cons h (Rps.append r s)
theorem Rps.one {v : V} {t : T} (h : Rp K pa F v t) : Rps K pa F [v] [t] := .cons h .nil
theorem Rps.get : ∀ {vs : List V} {l : List T} {i : Nat} {t : T}, Rps K pa F vs l → l[i]? = some t → ∃ v, vs[i]? = some v ∧ Rp K pa F v t
  | _, _, _, _, .nil, e => by simp at e
  | _, _, 0, _, .cons h _, e => by simp at e; subst e; exact ⟨_, rfl, h⟩
  | _, _, i + 1, _, .cons _ r, e => by
    obtain ⟨v, h1, h2⟩ := Rps.get (i := i) r (by simpa using e)
    exact ⟨v, by simpa using h1, h2⟩
theorem Rps.getV : ∀ {vs : List V} {l : List T} {i : Nat} {v : V}, Rps K pa F vs l → vs[i]? = some v → ∃ t, l[i]? = some t ∧ Rp K pa F v t
  | _, _, _, _, .nil, e => by simp at e
  | _, _, 0, _, .cons h _, e => by simp at e; subst e; exact ⟨_, rfl, h⟩
  | _, _, i + 1, _, .cons _ r, e => by
    obtain ⟨v, h1, h2⟩ := Rps.getV (i := i) r (by simpa using e)
    exact ⟨v, by simpa using h1, h2⟩
theorem Rps.take : ∀ {vs : List V} {l : List T} (n : Nat), Rps K pa F vs l → Rps K pa F (vs.take n) (l.take n)
  | _, _, 0, _ => .nil
  | _, _, _ + 1, .nil => .nil
  | _, _, n + 1, .cons h r => .cons h (Rps.take n r)
theorem Rps.drop : ∀ {vs : List V} {l : List T} (n : Nat), Rps K pa F vs l → Rps K pa F (vs.drop n) (l.drop n)
  | _, _, 0, r => r
  | _, _, _ + 1, .nil => .nil
  | _, _, n + 1, .cons _ r => Rps.drop n r
theorem Rps.reverse : ∀ {vs : List V} {l : List T}, Rps K pa F vs l → Rps K pa F vs.reverse l.reverse
  | _, _, .nil => .nil
  | _, _, .cons h r => by simpa using Rps.append r.reverse (.one h)
theorem Rps.set : ∀ {vs : List V} {l : List T} {v : V} {t : T} (i : Nat), Rps K pa F vs l → Rp K pa F v t → Rps K pa F (vs.set i v) (l.set i t)
  | _, _, _, _, _, .nil, _ => .nil
  | _, _, _, _, 0, .cons _ r, q => .cons q r
  | _, _, _, _, i + 1, .cons h r, q => .cons h (Rps.set i r q)
theorem Rps.ints : ∀ {vs : List V} {ns : List Int}, Rps K pa F vs (ns.map T.int) → vs = ns.map V.int
  | _, [], .nil => rfl
  | _, n :: ns, .cons h r => by
    cases h
    rw [Rps.ints r]
    rfl
theorem Rps.bls : ∀ {vs : List V} {ns : List Bool}, Rps K pa F vs (ns.map T.bl) → vs = ns.map V.bl
  | _, [], .nil => rfl
  | _, n :: ns, .cons h r => by
    cases h
    rw [Rps.bls r]
    rfl
theorem Rps.ofInts : ∀ {ns : List Int}, Rps K pa F (ns.map V.int) (ns.map T.int)
  | [] => .nil
  | n :: ns => .cons (.int n) Rps.ofInts
end

/-- rows of one's own -/
inductive Rows (K : PySem.W.Frag) (pa : Addr) (F H : Hp) : List Addr → List (List T) → Prop
  | nil : Rows K pa F H [] []
  | cons {b : Addr} {bs : List Addr} {vs : List V} {l : List T} {ls : List (List T)} : H b = some (.lst vs) → Rps K pa F vs l → Rows K pa F H bs ls → Rows K pa F H (b :: bs) (l :: ls)
/-- v is s, the addresses of its own in order -/
inductive Ow (K : PySem.W.Frag) (pa : Addr) (F H : Hp) : V → S → List Addr → Prop
  | p {v : V} {t : T} : Rp K pa F v t → Ow K pa F H v (.p t) []
  | l1 {a : Addr} {vs : List V} {l : List T} : H a = some (.lst vs) → Rps K pa F vs l → Ow K pa F H (.ref a) (.l1 l) [a]
  | l2 {a : Addr} {bs : List Addr} {ls : List (List T)} : H a = some (.lst (bs.map V.ref)) → Rows K pa F H bs ls → Ow K pa F H (.ref a) (.l2 ls) (a :: bs)
section
variable {K : PySem.W.Frag} {pa : Addr} {F F' H H' : Hp}
theorem Rows.mono (e : Same F F') : ∀ {bs : List Addr} {ls : List (List T)}, Rows K pa F H bs ls → (∀ b ∈ bs, ∀ o, H b = some o → H' b = some o) → Rows K pa F' H' bs ls
  | _, _, .nil, _ => .nil
  | _, _, .cons h r t, k => .cons (k _ List.mem_cons_self _ h) (r.mono e) (Rows.mono e t fun b hb => k b (List.mem_cons_of_mem _ hb))
theorem Rows.length : ∀ {bs : List Addr} {ls : List (List T)}, Rows K pa F H bs ls → bs.length = ls.length
  | _, _, .nil => rfl
  | _, _, .cons _ _ t => congrArg (· + 1) t.length
theorem Rows.there : ∀ {bs : List Addr} {ls : List (List T)}, Rows K pa F H bs ls → ∀ b ∈ bs, ∃ o, H b = some o
  | _, _, .nil, b, hb => by simp at hb
  | _, _, .cons h _ t, b, hb => by
    rcases List.mem_cons.mp hb with rfl | hb
    · exact ⟨_, h⟩
    · exact Rows.there t b hb
theorem Ow.mono (e : Same F F') {v : V} {s : S} {L : List Addr} (w : Ow K pa F H v s L) (k : ∀ b ∈ L, ∀ o, H b = some o → H' b = some o) : Ow K pa F' H' v s L := by
  cases w with
  | p r => exact .p (r.mono e)
  | l1 h r => exact .l1 (k _ List.mem_cons_self _ h) (r.mono e)
  | l2 h r => exact .l2 (k _ List.mem_cons_self _ h) (r.mono e fun b hb => k b (List.mem_cons_of_mem _ hb))
theorem Ow.there {v : V} {s : S} {L : List Addr} (w : Ow K pa F H v s L) : ∀ b ∈ L, ∃ o, H b = some o := by
  cases w with
  | p r => intro b hb; simp at hb
  | l1 h r =>
    intro b hb
    obtain rfl : b = _ := by simpa using hb
    exact ⟨_, h⟩
  | l2 h r =>
    intro b hb
    rcases List.mem_cons.mp hb with rfl | hb
    · exact ⟨_, h⟩
    · exact r.there b hb
end

/-- the pool stands: cells, a number, a rest, a state -/
structure PoolOk (K : PySem.W.Frag) (pa : Addr) (F H : Hp) : Prop where
  out : F pa = none
  st : ∃ (q : Addr) (ns : List Int) (i d s : Int), H pa = some (.lst [.ref q, .int i, .int d, .int s]) ∧ SqL K F q (ns.map V.int) ∧ 0 ≤ i ∧ 0 ≤ d ∧ 0 ≤ s ∧ s < 2147483647 ∧ (∀ z ∈ ns, 0 ≤ z)
structure Good (K : PySem.W.Frag) (pa : Addr) (F H : Hp) : Prop where
  sub : Same F H
  pool : PoolOk K pa F H
/-- how an expression may leave the heap -/
structure Grow (K : PySem.W.Frag) (pa : Addr) (F H F' H' : Hp) : Prop where
  f : Same F F'
  keep : ∀ b o, H b = some o → b ≠ pa → H' b = some o
  new : ∀ b o, F' b = some o → F b = some o ∨ H b = none
  good : Good K pa F' H'
section
variable {K : PySem.W.Frag} {pa : Addr} {F H F1 H1 F2 H2 F' H' : Hp}
theorem Good.there (g : Good K pa F H) : ∃ o, H pa = some o := by
  obtain ⟨q, ns, i, d, s, h, _⟩ := g.pool.st
  exact ⟨_, h⟩
theorem Good.ne (g : Good K pa F H) {p : Addr} (h : H p = none) : p ≠ pa := fun e => by
  obtain ⟨o, q⟩ := g.there
  rw [e, q] at h
  cases h
theorem Good.fnone (g : Good K pa F H) {p : Addr} (h : H p = none) : F p = none := g.sub.free h
theorem Grow.refl (g : Good K pa F H) : Grow K pa F H F H := ⟨Same.refl _, fun _ _ h _ => h, fun _ _ h => .inl h, g⟩
theorem Grow.dom (g : Grow K pa F H F' H') {b : Addr} (h : H' b = none) : H b = none := by
  cases q : H b with
  | none => rfl
  | some o =>
    by_cases e : b = pa
    · subst e
      obtain ⟨o', r⟩ := g.good.there
      rw [r] at h
      cases h
    · rw [g.keep b o q e] at h
      cases h
theorem Grow.trans (a : Grow K pa F H F1 H1) (b : Grow K pa F1 H1 F2 H2) : Grow K pa F H F2 H2 where
  f := a.f.trans b.f
  keep := fun c o h n => b.keep c o (a.keep c o h n) n
  new := fun c o h => by
    rcases b.new c o h with q | q
    · exact a.new c o q
    · exact .inr (a.dom q)
  good := b.good
/-- a new object, not told -/
theorem Grow.laid (g : Good K pa F H) {p : Addr} {o : HO} (h : H p = none) : Grow K pa F H F (upd H p o) where
  f := Same.refl _
  keep := fun b u q _ => by rw [upd_ne (ne_of_none q h)]; exact q
  new := fun _ _ h => .inl h
  good := ⟨fun b u q => by rw [upd_ne (ne_of_none (g.sub b u q) h)]; exact g.sub b u q, by
    obtain ⟨o1, q, ns, i, d, s, e, r⟩ := g.pool
    exact ⟨o1, q, ns, i, d, s, by rw [upd_ne (g.ne h).symm]; exact e, r⟩⟩
/-- a new object that nobody changes -/
theorem Grow.laidF (g : Good K pa F H) {p : Addr} {o : HO} (h : H p = none) : Grow K pa F H (upd F p o) (upd H p o) where
  f := fun b u q => by rw [upd_ne (ne_of_none q (g.fnone h))]; exact q
  keep := fun b u q _ => by rw [upd_ne (ne_of_none q h)]; exact q
  new := fun b u q => by
    by_cases e : b = p
    · subst e; exact .inr h
    · rw [upd_ne e] at q; exact .inl q
  good := ⟨fun b u q => by
    by_cases e : b = p
    · subst e; rw [upd_same] at q ⊢; exact q
    · rw [upd_ne e] at q ⊢; exact g.sub b u q, by
    obtain ⟨o1, q, ns, i, d, s, e, e2, r⟩ := g.pool
    have f : Same F (upd F p o) := fun b u q => by rw [upd_ne (ne_of_none q (g.fnone h))]; exact q
    exact ⟨by rw [upd_ne (g.ne h).symm]; exact o1, q, ns, i, d, s, by rw [upd_ne (g.ne h).symm]; exact e, f.seq e2, r⟩⟩
/-- borrowed: v is s, in the heap as it stands -/
def RepB (K : PySem.W.Frag) (pa : Addr) (F H : Hp) (v : V) (s : S) : Prop := ∃ L, Ow K pa F H v s L ∧ ∀ a ∈ L, a ≠ pa
/-- given away: what is its own of it is new since H -/
def Fresh (K : PySem.W.Frag) (pa : Addr) (H F' H' : Hp) (v : V) (s : S) : Prop := ∃ L, Ow K pa F' H' v s L ∧ L.Nodup ∧ ∀ a ∈ L, H a = none ∧ F' a = none
theorem RepB.pure {v : V} {t : T} (h : Rp K pa F v t) : RepB K pa F H v (.p t) := ⟨[], .p h, by simp⟩
theorem Fresh.pure {v : V} {t : T} (h : Rp K pa F' v t) : Fresh K pa H F' H' v (.p t) := ⟨[], .p h, by simp, by simp⟩
theorem Fresh.borrow {v : V} {s : S} (g : Good K pa F H) (h : Fresh K pa H F' H' v s) : RepB K pa F' H' v s := by
  obtain ⟨L, w, nd, n⟩ := h
  exact ⟨L, w, fun a ha => g.ne (n a ha).1⟩
theorem RepB.grow {v : V} {s : S} (h : RepB K pa F H v s) (g : Grow K pa F H F' H') : RepB K pa F' H' v s := by
  obtain ⟨L, w, n⟩ := h
  exact ⟨L, w.mono g.f fun b hb o q => g.keep b o q (n b hb), n⟩
theorem Fresh.grow {v : V} {s : S} (g0 : Good K pa F H) (h : Fresh K pa H F1 H1 v s) (g : Grow K pa F1 H1 F' H') : Fresh K pa H F' H' v s := by
  obtain ⟨L, w, nd, n⟩ := h
  refine ⟨L, w.mono g.f fun b hb o q => g.keep b o q (g0.ne (n b hb).1), nd, fun a ha => ⟨(n a ha).1, ?_⟩⟩
  cases q : F' a with
  | none => rfl
  | some o =>
    obtain ⟨o', q'⟩ := w.there a ha
    rcases g.new a o q with z | z
    · rw [(n a ha).2] at z; cases z
    · rw [q'] at z; cases z
/-- fresh since a later heap is fresh since an earlier one -/
theorem Fresh.since {v : V} {s : S} (g : Grow K pa F H F1 H1) (h : Fresh K pa H1 F' H' v s) : Fresh K pa H F' H' v s := by
  obtain ⟨L, w, nd, n⟩ := h
  exact ⟨L, w, nd, fun a ha => ⟨g.dom (n a ha).1, (n a ha).2⟩⟩
/-- told from now on: the cells at L -/
def addF (F H : Hp) (L : List Addr) : Hp := fun b => if b ∈ L then H b else F b
theorem addF_in {L : List Addr} {b : Addr} (h : b ∈ L) : addF F H L b = H b := by unfold addF; rw [if_pos h]
theorem addF_out {L : List Addr} {b : Addr} (h : b ∉ L) : addF F H L b = F b := by unfold addF; rw [if_neg h]
theorem addF_same {L : List Addr} (n : ∀ a ∈ L, F a = none) : Same F (addF F H L) := fun b o q => by
  by_cases hb : b ∈ L
  · rw [n b hb] at q; cases q
  · rw [addF_out hb]; exact q
theorem addF_good {L : List Addr} (g : Good K pa F H) (n : ∀ a ∈ L, F a = none ∧ a ≠ pa) : Good K pa (addF F H L) H := by
  refine ⟨fun b o q => ?_, ?_⟩
  · by_cases hb : b ∈ L
    · rw [addF_in hb] at q; exact q
    · rw [addF_out hb] at q; exact g.sub b o q
  · obtain ⟨o1, q, ns, i, d, s, e, e2, r⟩ := g.pool
    refine ⟨?_, q, ns, i, d, s, e, (addF_same fun a ha => (n a ha).1).seq e2, r⟩
    by_cases hb : pa ∈ L
    · exact absurd rfl (n pa hb).2
    · rw [addF_out hb]; exact o1
theorem Rows.froze : ∀ {bs : List Addr} {ls : List (List T)}, Rows K pa F H bs ls → (∀ b ∈ bs, F b = none) → (L : List Addr) → (∀ b ∈ bs, b ∈ L) → (∀ a ∈ L, F a = none) → Rps K pa (addF F H L) (bs.map V.ref) (ls.map T.lst)
  | _, _, .nil, _, _, _, _ => .nil
  | _, _, .cons h r t, n, L, i, m => .cons (.lst (by rw [addF_in (i _ List.mem_cons_self)]; exact h) (r.mono (addF_same m)))
      (Rows.froze t (fun b hb => n b (List.mem_cons_of_mem _ hb)) L (fun b hb => i b (List.mem_cons_of_mem _ hb)) m)
theorem Ow.froze {v : V} {s : S} {L : List Addr} (w : Ow K pa F H v s L) (n : ∀ a ∈ L, F a = none) : Rp K pa (addF F H L) v s.fz := by
  cases w with
  | p r => exact r.mono (addF_same n)
  | l1 h r => exact .lst (by rw [addF_in (by simp)]; exact h) (r.mono (addF_same n))
  | l2 h r => exact .lst (by rw [addF_in (by simp)]; exact h) (r.froze (fun b hb => n b (List.mem_cons_of_mem _ hb)) _ (fun b hb => List.mem_cons_of_mem _ hb) n)
/-- what was given away is told from now on -/
theorem Fresh.told {v : V} {s : S} (g0 : Good K pa F H) (g : Grow K pa F H F' H') (h : Fresh K pa H F' H' v s) : ∃ F2, Grow K pa F H F2 H' ∧ Same F' F2 ∧ Rp K pa F2 v s.fz := by
  obtain ⟨L, w, nd, n⟩ := h
  have gd : Good K pa (addF F' H' L) H' := addF_good g.good fun a ha => ⟨(n a ha).2, g0.ne (n a ha).1⟩
  have sm : Same F' (addF F' H' L) := addF_same fun a ha => (n a ha).2
  refine ⟨addF F' H' L, ⟨g.f.trans sm, g.keep, fun b o q => ?_, gd⟩, sm, w.froze fun a ha => (n a ha).2⟩
  by_cases hb : b ∈ L
  · exact .inr (n b hb).1
  · rw [addF_out hb] at q; exact g.new b o q
end

/-! ### the state of a body -/
structure Ctx where
  pa : Addr
  F0 : Hp
  H0 : Hp
  W : List Addr
  n : Nat
structure Ext (K : PySem.W.Frag) (C : Ctx) (F H : Hp) : Prop where
  f : Same C.F0 F
  keep : ∀ b o, C.H0 b = some o → b ≠ C.pa → b ∉ C.W → H b = some o
  dom : ∀ b, H b = none → C.H0 b = none
  new : ∀ b o, F b = some o → C.F0 b = some o ∨ C.H0 b = none ∨ b ∈ C.W
  good : Good K C.pa F H
inductive SlotR (K : PySem.W.Frag) (pa : Addr) (F H : Hp) : Option (Option V) → Option (Option S) → List Addr → Prop
  | out : SlotR K pa F H none none []
  | no {x : Option V} : SlotR K pa F H (some x) (some none) []
  | val {v : V} {s : S} {L : List Addr} : Ow K pa F H v s L → SlotR K pa F H (some (some v)) (some (some s)) L
def Mine (C : Ctx) (F : Hp) (a : Addr) : Prop := F a = none ∧ a ≠ C.pa ∧ (C.H0 a = none ∨ a ∈ C.W)
structure Rel (K : PySem.W.Frag) (C : Ctx) (F H : Hp) (σ : L2.St) (e : Sl) (O : Nat → List Addr) : Prop where
  ext : Ext K C F H
  num : σ.length = C.n
  slot : ∀ i, SlotR K C.pa F H σ[i]? e[i]? (O i)
  nd : ∀ i, (O i).Nodup
  dj : ∀ i j a, a ∈ O i → a ∈ O j → i = j
  own : ∀ i, ∀ a ∈ O i, Mine C F a
section
variable {K : PySem.W.Frag} {C : Ctx} {F H F' H' : Hp} {σ : L2.St} {e : Sl} {O : Nat → List Addr}
theorem Ext.grow (x : Ext K C F H) (g : Grow K C.pa F H F' H') : Ext K C F' H' where
  f := x.f.trans g.f
  keep := fun b o h n m => g.keep b o (x.keep b o h n m) n
  dom := fun b h => x.dom b (g.dom h)
  new := fun b o h => by
    rcases g.new b o h with q | q
    · exact x.new b o q
    · exact .inr (.inl (x.dom b q))
  good := g.good
theorem SlotR.there {pa : Addr} {v : Option (Option V)} {s : Option (Option S)} {L : List Addr} (w : SlotR K pa F H v s L) : ∀ b ∈ L, ∃ o, H b = some o := by
  cases w with
  | out => intro b hb; simp at hb
  | no => intro b hb; simp at hb
  | val w => exact w.there
theorem Rel.grow (r : Rel K C F H σ e O) (g : Grow K C.pa F H F' H') : Rel K C F' H' σ e O where
  ext := r.ext.grow g
  num := r.num
  slot := fun i => by
    have q := r.slot i
    cases h1 : σ[i]? with
    | none => rw [h1] at q; generalize e[i]? = z, O i = y at q; cases q; exact .out
    | some u =>
      rw [h1] at q
      have ow := r.own i
      generalize e[i]? = z, O i = y at q ow
      cases q with
      | no => exact .no
      | val w => exact .val (w.mono g.f fun b hb o q => g.keep b o q (ow b hb).2.1)
  nd := r.nd
  dj := r.dj
  own := fun i a ha => by
    obtain ⟨h1, h2, h3⟩ := r.own i a ha
    refine ⟨?_, h2, h3⟩
    cases q : F' a with
    | none => rfl
    | some o =>
      obtain ⟨o', q'⟩ := (r.slot i).there a ha
      rcases g.new a o q with z | z
      · rw [h1] at z; cases z
      · rw [q'] at z; cases z
theorem Rel.len (r : Rel K C F H σ e O) : σ.length = e.length := by
  apply Nat.le_antisymm
  · refine Nat.not_lt.mp fun h => ?_
    have q := r.slot e.length
    rw [List.getElem?_eq_getElem h, List.getElem?_eq_none (Nat.le_refl _)] at q
    generalize σ[e.length] = z, O e.length = y at q
    cases q
  · refine Nat.not_lt.mp fun h => ?_
    have q := r.slot σ.length
    rw [List.getElem?_eq_getElem h, List.getElem?_eq_none (Nat.le_refl _)] at q
    generalize e[σ.length] = z, O σ.length = y at q
    cases q
theorem Rel.at (r : Rel K C F H σ e O) {i : Nat} {s : S} (h : e[i]? = some (some s)) : ∃ v, σ[i]? = some (some v) ∧ Ow K C.pa F H v s (O i) := by
  have q := r.slot i
  rw [h] at q
  generalize σ[i]? = z, O i = y at q ⊢
  cases q with
  | val w => exact ⟨_, rfl, w⟩
/-- a slot's value changes -/
theorem Rel.set (r : Rel K C F H σ e O) {i : Nat} (hi : i < e.length) {v : V} {s : S} {L : List Addr} (w : Ow K C.pa F H v s L) (nd : L.Nodup) (dj : ∀ j, j ≠ i → ∀ a ∈ L, a ∉ O j) (own : ∀ a ∈ L, Mine C F a) :
    Rel K C F H (σ.set i (some v)) (e.set i (some s)) (fun j => if j = i then L else O j) where
  ext := r.ext
  num := by rw [List.length_set]; exact r.num
  slot := fun j => by
    by_cases h : j = i
    · subst h
      rw [if_pos rfl, List.getElem?_set_self (by rw [r.len]; exact hi), List.getElem?_set_self hi]
      exact .val w
    · rw [if_neg h, List.getElem?_set_ne (Ne.symm h), List.getElem?_set_ne (Ne.symm h)]
      exact r.slot j
  nd := fun j => by
    by_cases h : j = i
    · rw [if_pos h]; exact nd
    · rw [if_neg h]; exact r.nd j
  dj := fun j k a h1 h2 => by
    by_cases hj : j = i
    · by_cases hk : k = i
      · rw [hj, hk]
      · rw [if_pos hj] at h1; rw [if_neg hk] at h2; exact absurd h2 (dj k hk a h1)
    · by_cases hk : k = i
      · rw [if_neg hj] at h1; rw [if_pos hk] at h2; exact absurd h1 (dj j hj a h2)
      · rw [if_neg hj] at h1; rw [if_neg hk] at h2; exact r.dj j k a h1 h2
  own := fun j a ha => by
    by_cases h : j = i
    · rw [if_pos h] at ha; exact own a ha
    · rw [if_neg h] at ha; exact r.own j a ha
theorem Rel.setP (r : Rel K C F H σ e O) {i : Nat} (hi : i < e.length) {v : V} {t : T} (w : Rp K C.pa F v t) : ∃ O', Rel K C F H (σ.set i (some v)) (e.set i (some (.p t))) O' :=
  ⟨_, r.set hi (.p w) (by simp) (by simp) (by simp)⟩
/-- a slot is emptied -/
theorem Rel.wipe1 (r : Rel K C F H σ e O) (i : Nat) : ∃ O', Rel K C F H (σ.set i none) (e.set i none) O' := by
  refine ⟨fun j => if j = i then [] else O j, r.ext, by rw [List.length_set]; exact r.num, fun j => ?_, fun j => ?_, fun j k a h1 h2 => ?_, fun j a ha => ?_⟩
  · by_cases h : j = i
    · subst h
      rw [if_pos rfl]
      by_cases hi : j < e.length
      · rw [List.getElem?_set_self (by rw [r.len]; exact hi), List.getElem?_set_self hi]; exact .no
      · rw [List.getElem?_eq_none (by rw [List.length_set, r.len]; omega), List.getElem?_eq_none (by rw [List.length_set]; omega)]; exact .out
    · rw [if_neg h, List.getElem?_set_ne (Ne.symm h), List.getElem?_set_ne (Ne.symm h)]
      exact r.slot j
  · by_cases h : j = i
    · rw [if_pos h]; simp
    · rw [if_neg h]; exact r.nd j
  · by_cases hj : j = i
    · rw [if_pos hj] at h1; simp at h1
    · by_cases hk : k = i
      · rw [if_pos hk] at h2; simp at h2
      · rw [if_neg hj] at h1; rw [if_neg hk] at h2; exact r.dj j k a h1 h2
  · by_cases h : j = i
    · rw [if_pos h] at ha; simp at ha
    · rw [if_neg h] at ha; exact r.own j a ha
def wipeE (e : Sl) : List Nat → Sl
  | [] => e
  | v :: vs => (wipeE e vs).set v none
theorem Rel.wipe (r : Rel K C F H σ e O) : ∀ vs : List Nat, ∃ O', Rel K C F H (L2.wipe σ vs) (wipeE e vs) O'
  | [] => ⟨O, r⟩
  | v :: vs => by
    obtain ⟨O1, r1⟩ := Rel.wipe r vs
    exact r1.wipe1 v
/-- a slot takes what was given away -/
theorem Rel.take (r : Rel K C F H σ e O) (g : Grow K C.pa F H F' H') {i : Nat} (hi : i < e.length) {v : V} {s : S} (w : Fresh K C.pa H F' H' v s) : ∃ O', Rel K C F' H' (σ.set i (some v)) (e.set i (some s)) O' := by
  obtain ⟨L, w, nd, n⟩ := w
  refine ⟨_, (r.grow g).set hi w nd (fun j hj a ha hb => ?_) fun a ha => ⟨(n a ha).2, r.ext.good.ne (n a ha).1, .inl (r.ext.dom a (n a ha).1)⟩⟩
  obtain ⟨o, q⟩ := (r.slot j).there a hb
  rw [(n a ha).1] at q; cases q
theorem Rel.borrow (r : Rel K C F H σ e O) {i : Nat} {s : S} (h : e[i]? = some (some s)) : ∃ v, σ[i]? = some (some v) ∧ RepB K C.pa F H v s := by
  obtain ⟨v, h1, h2⟩ := r.at h
  exact ⟨v, h1, O i, h2, fun a ha => (r.own i a ha).2.1⟩
/-- a slot's own list is told from now on -/
theorem Rel.froze (r : Rel K C F H σ e O) {i : Nat} {s : S} (h : e[i]? = some (some s)) : ∃ F' O', Rel K C F' H σ (e.set i (some (.p s.fz))) O' ∧ Same F F' := by
  obtain ⟨v, h1, h2⟩ := r.at h
  have hi : i < e.length := by
    rcases Nat.lt_or_ge i e.length with q | q
    · exact q
    · rw [List.getElem?_eq_none q] at h; cases h
  have sm : Same F (addF F H (O i)) := addF_same fun a ha => (r.own i a ha).1
  have gd : Good K C.pa (addF F H (O i)) H := addF_good r.ext.good fun a ha => ⟨(r.own i a ha).1, (r.own i a ha).2.1⟩
  have hw := h2.froze fun a ha => (r.own i a ha).1
  refine ⟨_, fun j => if j = i then [] else O j, ⟨⟨r.ext.f.trans sm, r.ext.keep, r.ext.dom, fun b o q => ?_, gd⟩, r.num, fun j => ?_, fun j => ?_, fun j k a h1 h2 => ?_, fun j a ha => ?_⟩, sm⟩
  · by_cases hb : b ∈ O i
    · rcases (r.own i b hb).2.2 with z | z
      · exact .inr (.inl z)
      · exact .inr (.inr z)
    · rw [addF_out hb] at q; exact r.ext.new b o q
  · by_cases hj : j = i
    · subst hj
      rw [if_pos rfl, List.getElem?_set_self hi, h1]
      exact .val (.p hw)
    · rw [if_neg hj, List.getElem?_set_ne (Ne.symm hj)]
      have q := r.slot j
      generalize σ[j]? = x, e[j]? = z, O j = y at q
      cases q with
      | out => exact .out
      | no => exact .no
      | val w => exact .val (w.mono sm fun _ _ _ q => q)
  · by_cases hj : j = i
    · rw [if_pos hj]; simp
    · rw [if_neg hj]; exact r.nd j
  · by_cases hj : j = i
    · rw [if_pos hj] at h1; simp at h1
    · by_cases hk : k = i
      · rw [if_pos hk] at h2; simp at h2
      · rw [if_neg hj] at h1; rw [if_neg hk] at h2; exact r.dj j k a h1 h2
  · by_cases hj : j = i
    · rw [if_pos hj] at ha; simp at ha
    · rw [if_neg hj] at ha
      obtain ⟨q1, q2, q3⟩ := r.own j a ha
      refine ⟨?_, q2, q3⟩
      rw [addF_out fun hb => hj (r.dj j i a ha hb)]
      exact q1
end
end TLY

/-! Tree layer, part 2: expressions. -/
namespace TLY
open PySem PySem.Spec PyProof.Rows L2

abbrev RE := Sl → (S → Prop) → (Ex → Prop) → Prop
abbrev RT := Sl → (Bool → Prop) → (Ex → Prop) → Prop
abbrev RA := Sl → (List S → Prop) → (Ex → Prop) → Prop
abbrev RF := Sl → (List T → Prop) → (Ex → Prop) → Prop

inductive Flds (K : PySem.W.Frag) (pa : Addr) (F : Hp) : List (Str × V) → List (Str × T) → Prop
  | nil : Flds K pa F [] []
  | cons {n : Str} {v : V} {t : T} {ws : List (Str × V)} {fs : List (Str × T)} : Rp K pa F v t → Flds K pa F ws fs → Flds K pa F ((n, v) :: ws) ((n, t) :: fs)
def ExR (K : PySem.W.Frag) (pa : Addr) (F H : Hp) (x : Ex) (cls : Value) (d : Option Addr) : Prop :=
  cls = .ref x.cls ∧ ((x.fs = [] ∧ d = none) ∨ ∃ dd ws, x.fs ≠ [] ∧ d = some dd ∧ H dd = some (.xd ws) ∧ Flds K pa F ws x.fs)
def ExW (K : PySem.W.Frag) (pa : Addr) (F H : Hp) (W : WX) (σ : L2.St) (Et : Ex → Prop) : Prop :=
  ∀ x cls d F' H', Et x → Grow K pa F H F' H' → ExR K pa F' H' x cls d → W cls d σ H'
theorem ExW.grow {K : PySem.W.Frag} {pa : Addr} {F H F' H' : Hp} {W : WX} {σ : L2.St} {Et : Ex → Prop} (x : ExW K pa F H W σ Et) (g : Grow K pa F H F' H') : ExW K pa F' H' W σ Et :=
  fun x' cls d F1 H1 e g1 r => x x' cls d F1 H1 e (g.trans g1) r

def liftV (K : PySem.W.Frag) (W : WX) (t : RE) : TE := fun σ H Q => ∃ C F e O Qt Et, Rel K C F H σ e O ∧ t e Qt Et ∧
  (∀ r v F' H', Qt r → Grow K C.pa F H F' H' → Fresh K C.pa H F' H' v r → Q v H') ∧ ExW K C.pa F H W σ Et
def liftB (K : PySem.W.Frag) (W : WX) (t : RE) : TE := fun σ H Q => ∃ C F e O Qt Et, Rel K C F H σ e O ∧ t e Qt Et ∧
  (∀ r v F' H', Qt r → Grow K C.pa F H F' H' → RepB K C.pa F' H' v r → Q v H') ∧ ExW K C.pa F H W σ Et
def liftT (K : PySem.W.Frag) (W : WX) (t : RT) : TT := fun σ H Q => ∃ C F e O Qt Et, Rel K C F H σ e O ∧ t e Qt Et ∧
  (∀ b F' H', Qt b → Grow K C.pa F H F' H' → Q b H') ∧ ExW K C.pa F H W σ Et
inductive RepBs (K : PySem.W.Frag) (pa : Addr) (F H : Hp) : List V → List S → Prop
  | nil : RepBs K pa F H [] []
  | cons {v : V} {s : S} {vs : List V} {ss : List S} : RepB K pa F H v s → RepBs K pa F H vs ss → RepBs K pa F H (v :: vs) (s :: ss)
theorem RepBs.grow {K : PySem.W.Frag} {pa : Addr} {F H F' H' : Hp} (g : Grow K pa F H F' H') : ∀ {vs : List V} {ss : List S}, RepBs K pa F H vs ss → RepBs K pa F' H' vs ss
  | _, _, .nil => .nil
  | _, _, .cons h r => .cons (h.grow g) (RepBs.grow g r)
def liftA (K : PySem.W.Frag) (W : WX) (t : RA) : TA := fun σ H Q => ∃ C F e O Qt Et, Rel K C F H σ e O ∧ t e Qt Et ∧
  (∀ rs vs F' H', Qt rs → Grow K C.pa F H F' H' → RepBs K C.pa F' H' vs rs → Q vs H') ∧ ExW K C.pa F H W σ Et
def liftF (K : PySem.W.Frag) (W : WX) (t : RF) : TA := fun σ H Q => ∃ C F e O Qt Et, Rel K C F H σ e O ∧ t e Qt Et ∧
  (∀ rs vs F' H', Qt rs → Grow K C.pa F H F' H' → Rps K C.pa F' vs rs → Q vs H') ∧ ExW K C.pa F H W σ Et

structure VE (X : Cx) (W : WX) (e : Expr) (t : RE) : Prop where
  run : PE X e (liftV X.K W t)
structure BE (X : Cx) (W : WX) (e : Expr) (t : RE) : Prop where
  run : PE X e (liftB X.K W t)
structure VT (X : Cx) (W : WX) (e : Expr) (t : RT) : Prop where
  run : PT X e (liftT X.K W t)
structure VW (X : Cx) (W : WX) (e : Expr) (t : RT) : Prop where
  run : PW X e (liftT X.K W t)
structure BA (X : Cx) (W : WX) (es : List Expr) (t : RA) : Prop where
  run : PA X es (liftA X.K W t)
structure FA (X : Cx) (W : WX) (es : List Expr) (t : RF) : Prop where
  run : PA X es (liftF X.K W t)

theorem PE.imp {X : Cx} {e : Expr} {t t' : TE} (h : PE X e t) (i : ∀ σ H Q, t' σ H Q → t σ H Q) : PE X e t' := ⟨fun pins s σ H Q I q => h.run pins s σ H Q I (i σ H Q q)⟩
theorem PT.imp {X : Cx} {e : Expr} {t t' : TT} (h : PT X e t) (i : ∀ σ H Q, t' σ H Q → t σ H Q) : PT X e t' := ⟨fun pins s σ H Q I q => h.run pins s σ H Q I (i σ H Q q)⟩
theorem PW.imp {X : Cx} {e : Expr} {t t' : TT} (h : PW X e t) (i : ∀ σ H Q, t' σ H Q → t σ H Q) : PW X e t' := ⟨fun w pins s σ H Q I q => h.run w pins s σ H Q I (i σ H Q q)⟩
theorem PA.imp {X : Cx} {es : List Expr} {t t' : TA} (h : PA X es t) (i : ∀ σ H Q, t' σ H Q → t σ H Q) : PA X es t' := ⟨fun pos pins s σ H Q I q => h.run pos pins s σ H Q I (i σ H Q q)⟩
theorem PS.imp {X : Cx} {st : Stmt} {t t' : TS} (h : PS X st t) (i : ∀ D σ H, t' D σ H → t D σ H) : PS X st t' := ⟨fun pins s σ H D I q => h.run pins s σ H D I (i D σ H q)⟩

section
variable {X : Cx} {W : WX}

theorem VE.be {e : Expr} {t : RE} (h : VE X W e t) : BE X W e t := ⟨PE.imp h.run fun σ H Q ⟨C, F, e, O, Qt, Et, r, q, k, x⟩ =>
  ⟨C, F, e, O, Qt, Et, r, q, fun s v F' H' hq g f => k s v F' H' hq g (f.borrow r.ext.good), x⟩⟩

/-! ### names and constants -/
/-- a slot, as it stands -/
def rSlot (i : Nat) : RE := fun e Q _ => match slotAt e i with
  | some s => Q s
  | none => False
/-- a slot whose value is a tree -/
def rVar (i : Nat) : RE := fun e Q _ => match slotAt e i with
  | some (.p t) => Q (.p t)
  | _ => False
def rC (t : T) : RE := fun _ Q _ => Q (.p t)
theorem PE.slot {e : Expr} {i : Nat} (h : PE X e (tVar i)) : BE X W e (rSlot i) := ⟨PE.imp h fun σ H Q ⟨C, F, e, O, Qt, Et, r, q, k, x⟩ => by
  unfold rSlot at q
  split at q
  · rename_i s hs
    obtain ⟨v, h1, h2⟩ := r.borrow (slotAt_some hs)
    exact ⟨v, h1, k s v F H q (.refl r.ext.good) h2⟩
  · exact q.elim⟩
theorem PE.tree {e : Expr} {i : Nat} (h : PE X e (tVar i)) : VE X W e (rVar i) := ⟨PE.imp h fun σ H Q ⟨C, F, e, O, Qt, Et, r, q, k, x⟩ => by
  unfold rVar at q
  split at q
  · rename_i t hs
    obtain ⟨v, h1, h2⟩ := r.at (slotAt_some hs)
    generalize O i = L at h2
    cases h2 with
    | p w => exact ⟨v, h1, k _ v F H q (.refl r.ext.good) (.pure w)⟩
  · exact q.elim⟩
theorem PE.con {e : Expr} {v : V} {t : T} (h : PE X e (tC v)) (w : ∀ K pa F, Rp K pa F v t) : VE X W e (rC t) := ⟨PE.imp h fun σ H Q ⟨C, F, e, O, Qt, Et, r, q, k, x⟩ => k _ v F H q (.refl r.ext.good) (.pure (w _ _ _))⟩
theorem ve_int {i j pos} : VE X W (.Constant (.int i) j pos) (rC (.int i)) := PE.con pe_int fun _ _ _ => .int i
theorem ve_bl {b j pos} : VE X W (.Constant (.bool b) j pos) (rC (.bl b)) := PE.con pe_bl fun _ _ _ => .bl b
theorem ve_non {j pos} : VE X W (.Constant .none j pos) (rC .non) := PE.con pe_non fun _ _ _ => .non
theorem ve_str {x j pos} : VE X W (.Constant (.str x) j pos) (rC (.str x)) := PE.con pe_str fun _ _ _ => .str x
theorem be_var (i : Nat) {x : Str} {pos : Pos} (hN : X.N[i]? = some x := by rfl) (hv : Vis X.env.scope x := by first | exact Or.inl rfl | exact Or.inr (Or.inl rfl) | exact Or.inr (Or.inr rfl)) (hd : (x == ("__debug__" : Str)) = false := by decide)
    (hcd : (x == ("__classdict__" : Str)) = false := by decide) : BE X W (.Name x pos) (rSlot i) := PE.slot (pe_var hN hv hd hcd)
theorem ve_var (i : Nat) {x : Str} {pos : Pos} (hN : X.N[i]? = some x := by rfl) (hv : Vis X.env.scope x := by first | exact Or.inl rfl | exact Or.inr (Or.inl rfl) | exact Or.inr (Or.inr rfl)) (hd : (x == ("__debug__" : Str)) = false := by decide)
    (hcd : (x == ("__classdict__" : Str)) = false := by decide) : VE X W (.Name x pos) (rVar i) := PE.tree (pe_var hN hv hd hcd)

/-! ### argument lists -/
def rNil : RA := fun _ Q _ => Q []
def rCons (ta : RE) (tr : RA) : RA := fun e Q E => ta e (fun s => tr e (fun ss => Q (s :: ss)) E) E
theorem ba_nil : BA X W [] rNil := ⟨PA.imp pa_nil fun σ H Q ⟨C, F, e, O, Qt, Et, r, q, k, x⟩ => k [] [] F H q (.refl r.ext.good) .nil⟩
theorem ba_cons {e : Expr} {es : List Expr} {ta : RE} {tr : RA} (ha : BE X W e ta) (hr : BA X W es tr) (hs : starEach (e :: es) X.env = (false, eval e X.env) :: starEach es X.env := by rfl) : BA X W (e :: es) (rCons ta tr) :=
  ⟨PA.imp (pa_cons ha.run hr.run hs) fun σ H Q ⟨C, F, e, O, Qt, Et, r, q, k, x⟩ => by
    refine ⟨C, F, e, O, _, Et, r, q, fun s v F1 H1 q1 g1 b1 => ?_, x⟩
    refine ⟨C, F1, e, O, _, Et, r.grow g1, q1, fun ss vs F2 H2 q2 g2 b2 => ?_, x.grow g1⟩
    exact k (s :: ss) (v :: vs) F2 H2 q2 (g1.trans g2) (.cons (b1.grow g2) b2)⟩
def fNil : RF := fun _ Q _ => Q []
def fCons (ta : RE) (tr : RF) : RF := fun e Q E => ta e (fun s => tr e (fun ss => Q (s.fz :: ss)) E) E
theorem fa_nil : FA X W [] fNil := ⟨PA.imp pa_nil fun σ H Q ⟨C, F, e, O, Qt, Et, r, q, k, x⟩ => k [] [] F H q (.refl r.ext.good) .nil⟩
theorem fa_cons {e : Expr} {es : List Expr} {ta : RE} {tr : RF} (ha : VE X W e ta) (hr : FA X W es tr) (hs : starEach (e :: es) X.env = (false, eval e X.env) :: starEach es X.env := by rfl) : FA X W (e :: es) (fCons ta tr) :=
  ⟨PA.imp (pa_cons ha.run hr.run hs) fun σ H Q ⟨C, F, e, O, Qt, Et, r, q, k, x⟩ => by
    refine ⟨C, F, e, O, _, Et, r, q, fun s v F1 H1 q1 g1 b1 => ?_, x⟩
    obtain ⟨F1', g1', _, w1⟩ := b1.told r.ext.good g1
    refine ⟨C, F1', e, O, _, Et, r.grow g1', q1, fun ss vs F2 H2 q2 g2 b2 => ?_, x.grow g1'⟩
    exact k (s.fz :: ss) (v :: vs) F2 H2 q2 (g1'.trans g2) (.cons (w1.mono g2.f) b2)⟩

/-! ### displays -/
def rTup (t : RF) : RE := fun e Q E => t e (fun l => l.length ≤ sizeLine ∧ Q (.p (.tup l))) E
def rLst (t : RF) : RE := fun e Q E => t e (fun l => l.length ≤ sizeLine ∧ Q (.l1 l)) E
theorem ve_tup {es : List Expr} {t : RF} {x1 pos} (h : FA X W es t) : VE X W (.Tuple es x1 pos) (rTup t) := ⟨PE.imp (pe_tup h.run) fun σ H Q ⟨C, F, e, O, Qt, Et, r, q, k, x⟩ => by
  refine ⟨C, F, e, O, _, Et, r, q, fun l vs F1 H1 ⟨hl, q1⟩ g1 w => ⟨by rw [w.length]; exact hl, fun p hp => ?_⟩, x⟩
  have g2 := Grow.laidF g1.good (o := .tup vs) hp
  exact k _ _ _ _ q1 (g1.trans g2) (.pure (.tup (.inl (.inl upd_same)) (w.mono g2.f)))⟩
theorem ve_lst {es : List Expr} {t : RF} {pos} (h : FA X W es t) : VE X W (.List es pos) (rLst t) := ⟨PE.imp (pe_lst h.run) fun σ H Q ⟨C, F, e, O, Qt, Et, r, q, k, x⟩ => by
  refine ⟨C, F, e, O, _, Et, r, q, fun l vs F1 H1 ⟨hl, q1⟩ g1 w => ⟨by rw [w.length]; exact hl, fun p hp => ?_⟩, x⟩
  have g2 := Grow.laid g1.good (o := .lst vs) hp
  exact k _ _ _ _ q1 (g1.trans g2) ⟨[p], .l1 upd_same (w.mono g2.f), by simp, fun a ha => by
    obtain rfl : a = p := by simpa using ha
    exact ⟨g1.dom hp, g1.good.fnone hp⟩⟩⟩

/-! ### two operands -/
/-- a rule by values does f of trees -/
def OpT (K : PySem.W.Frag) (r : V → V → Hp → VK → Prop) (f : S → S → (S → Prop) → Prop) : Prop :=
  ∀ pa F H x y sx sy (Qt : S → Prop) (Q : VK), Good K pa F H → RepB K pa F H x sx → RepB K pa F H y sy → f sx sy Qt →
    (∀ s v F' H', Qt s → Grow K pa F H F' H' → Fresh K pa H F' H' v s → Q v H') → r x y H Q
def rOp (f : S → S → (S → Prop) → Prop) (ta tb : RE) : RE := fun e Q E => ta e (fun x => tb e (fun y => f x y Q) E) E
theorem op_run {f : S → S → (S → Prop) → Prop} {r : V → V → Hp → VK → Prop} {ta tb : RE} (o : OpT X.K r f) {σ : L2.St} {H : Hp} {Q : VK} (h : liftV X.K W (rOp f ta tb) σ H Q) : tOp r (liftB X.K W ta) (liftB X.K W tb) σ H Q := by
  obtain ⟨C, F, e, O, Qt, Et, rl, q, k, x⟩ := h
  refine ⟨C, F, e, O, _, Et, rl, q, fun sx vx F1 H1 q1 g1 b1 => ?_, x⟩
  refine ⟨C, F1, e, O, _, Et, rl.grow g1, q1, fun sy vy F2 H2 q2 g2 b2 => ?_, x.grow g1⟩
  exact o C.pa F2 H2 vx vy sx sy Qt Q g2.good (b1.grow g2) b2 q2 fun s v F' H' hq g w => k s v F' H' hq ((g1.trans g2).trans g) (w.since (g1.trans g2))
theorem ve_op {op : Operator} {a b : Expr} {r : V → V → Hp → VK → Prop} {f : S → S → (S → Prop) → Prop} {ta tb : RE} {pos} (ho : OpR X (binaryOp op) r) (o : OpT X.K r f) (ha : BE X W a ta) (hb : BE X W b tb) : VE X W (.BinOp a op b pos) (rOp f ta tb) :=
  ⟨PE.imp (pe_op ho ha.run hb.run) fun σ H Q h => op_run o h⟩
theorem ve_cmp {op : CmpOp} {a b : Expr} {r : V → V → Hp → VK → Prop} {f : S → S → (S → Prop) → Prop} {ta tb : RE} {pos} (ho : OpR X (compareOp op) r) (o : OpT X.K r f) (ha : BE X W a ta) (hb : BE X W b tb) (hm : behindInMarks op b = false := by first | rfl | exact nomark _) : VE X W (.Compare a [op] [b] pos) (rOp f ta tb) :=
  ⟨PE.imp (pe_cmpR ho ha.run hb.run hm) fun σ H Q h => op_run o h⟩
end
end TLY

/-! Tree layer, part 3: operators and built-in calls over trees. -/
namespace TLY
open PySem PySem.Spec PyProof.Rows L2

def S.lst? : S → Option (List T)
  | .p (.lst l) => some l
  | .l1 l => some l
  | _ => none
def S.seq? : S → Option (List T)
  | .p (.lst l) => some l
  | .p (.tup l) => some l
  | .l1 l => some l
  | _ => none
def S.size? : S → Option Nat
  | .p (.lst l) => some l.length
  | .p (.tup l) => some l.length
  | .l1 l => some l.length
  | .l2 l => some l.length
  | .p (.str x) => if x.length ≤ sizeLine then some x.length else none
  | _ => none
def S.truth? : S → Option Bool
  | .p .non => some false
  | .p (.bl b) => some b
  | .p (.int i) => some (i != 0)
  | .p (.lst l) => some (!l.isEmpty)
  | .p (.tup l) => some (!l.isEmpty)
  | .p .dct => some false
  | .l1 l => some (!l.isEmpty)
  | .l2 l => some (!l.isEmpty)
  | .p (.str x) => if x.length ≤ sizeLine then some (x.length != 0) else none
  | _ => none
/-- the name of the class -/
def T.cls? : T → Option String
  | .non => some "NoneType"
  | .bl _ => some "bool"
  | .int _ => some "int"
  | .str _ => some "str"
  | .tup _ => some "tuple"
  | .lst _ => some "list"
  | .dct => some "dict"
  | _ => none
def S.cls? : S → Option String
  | .p t => t.cls?
  | _ => some "list"

section
variable {K : PySem.W.Frag} {pa : Addr} {F H F' H' : Hp} {v : V} {s : S}
theorem RepB.rp {t : T} (h : RepB K pa F H v (.p t)) : Rp K pa F v t := by
  obtain ⟨L, w, _⟩ := h
  cases w with
  | p r => exact r
theorem RepB.int {i : Int} (h : RepB K pa F H v (.p (.int i))) : v = .int i := by cases h.rp; rfl
theorem RepB.bl {b : Bool} (h : RepB K pa F H v (.p (.bl b))) : v = .bl b := by cases h.rp; rfl
theorem RepB.str {x : Str} (h : RepB K pa F H v (.p (.str x))) : v = .str x := by cases h.rp; rfl
theorem RepB.non (h : RepB K pa F H v (.p .non)) : v = .non := by cases h.rp; rfl
theorem RepB.tup {l : List T} (h : RepB K pa F H v (.p (.tup l))) : ∃ a vs, v = .ref a ∧ SqT K F a vs ∧ Rps K pa F vs l := by
  cases h.rp with
  | tup q r => exact ⟨_, _, rfl, q, r⟩
theorem RepB.lst (g : Good K pa F H) {l : List T} (h : RepB K pa F H v s) (e : s.lst? = some l) : ∃ a vs, v = .ref a ∧ H a = some (.lst vs) ∧ Rps K pa F vs l := by
  unfold S.lst? at e
  split at e
  · cases e
    cases h.rp with
    | lst q r => exact ⟨_, _, rfl, g.sub _ _ q, r⟩
  · cases e
    obtain ⟨L, w, _⟩ := h
    cases w with
    | l1 q r => exact ⟨_, _, rfl, q, r⟩
  · cases e
theorem RepB.seq (g : Good K pa F H) {l : List T} (h : RepB K pa F H v s) (e : s.seq? = some l) : ∃ a vs, v = .ref a ∧ (SqL K H a vs ∨ SqT K H a vs) ∧ Rps K pa F vs l := by
  unfold S.seq? at e
  split at e
  · obtain ⟨a, vs, e1, q, r⟩ := h.lst g e
    exact ⟨a, vs, e1, .inl (.inl (.inl q)), r⟩
  · cases e
    obtain ⟨a, vs, e1, q, r⟩ := h.tup
    exact ⟨a, vs, e1, .inr (sameSqT g.sub q), r⟩
  · obtain ⟨a, vs, e1, q, r⟩ := h.lst g e
    exact ⟨a, vs, e1, .inl (.inl (.inl q)), r⟩
  · cases e
theorem RepB.size (g : Good K pa F H) {n : Nat} (h : RepB K pa F H v s) (e : s.size? = some n) : LenV K v H n := by
  unfold S.size? at e
  split at e
  · cases e
    obtain ⟨a, vs, e1, q, r⟩ := h.lst g rfl
    subst e1
    exact .inl ⟨vs, .inl (.inl q), r.length.symm⟩
  · cases e
    obtain ⟨a, vs, e1, q, r⟩ := h.tup
    subst e1
    exact .inr ⟨vs, sameSqT g.sub q, r.length.symm⟩
  · cases e
    obtain ⟨a, vs, e1, q, r⟩ := h.lst g rfl
    subst e1
    exact .inl ⟨vs, .inl (.inl q), r.length.symm⟩
  · cases e
    obtain ⟨L, w, _⟩ := h
    cases w with
    | l2 q r => exact .inl ⟨_, .inl (.inl q), by rw [List.length_map]; exact r.length.symm⟩
  · split at e
    · cases e
      obtain rfl := h.str
      exact ⟨by assumption, rfl⟩
    · cases e
  · cases e
theorem isEmpty_len {α β : Type} {xs : List α} {ys : List β} (h : xs.length = ys.length) : xs.isEmpty = ys.isEmpty := by
  cases xs <;> cases ys <;> simp_all
theorem RepB.truth (g : Good K pa F H) {b : Bool} (h : RepB K pa F H v s) (e : s.truth? = some b) : TruV K v H b := by
  unfold S.truth? at e
  split at e
  · cases e; obtain rfl := h.non; rfl
  · cases e; obtain rfl := h.bl; rfl
  · cases e; obtain rfl := h.int; rfl
  · cases e
    obtain ⟨a, vs, e1, q, r⟩ := h.lst g rfl
    subst e1
    exact .inl ⟨vs, .inl (.inl q), by rw [isEmpty_len r.length]⟩
  · cases e
    obtain ⟨a, vs, e1, q, r⟩ := h.tup
    subst e1
    exact .inr (.inl ⟨vs, sameSqT g.sub q, by rw [isEmpty_len r.length]⟩)
  · cases e
    cases h.rp with
    | dct q => exact .inr (.inr ⟨[], g.sub _ _ q, rfl⟩)
  · cases e
    obtain ⟨a, vs, e1, q, r⟩ := h.lst g rfl
    subst e1
    exact .inl ⟨vs, .inl (.inl q), by rw [isEmpty_len r.length]⟩
  · cases e
    obtain ⟨L, w, _⟩ := h
    cases w with
    | l2 q r => exact .inl ⟨_, .inl (.inl q), by rw [isEmpty_len (show (List.map V.ref _).length = _ from (List.length_map _).trans r.length)]⟩
  · split at e
    · cases e
      obtain rfl := h.str
      exact ⟨by assumption, by
        show (_ != _) = ((_ : Int) != 0)
        rw [bne, bne, Bool.not_inj_iff]
        by_cases hx : (‹Str›).length = 0
        · rw [hx]; rfl
        · rw [beq_eq_false_iff_ne.mpr hx, beq_eq_false_iff_ne.mpr (by omega)]⟩
    · cases e
  · cases e
theorem RepB.cls (g : Good K pa F H) {n : String} (h : RepB K pa F H v s) (e : s.cls? = some n) : TyX K H v (.type n) := by
  unfold S.cls? at e
  split at e
  · rename_i t
    have w := h.rp
    unfold T.cls? at e
    split at e
    · cases e; cases w; exact .base .non
    · cases e; cases w; exact .base (.bl _)
    · cases e; cases w; exact .base (.int _)
    · cases e; cases w; exact .base (.str _)
    · cases e
      cases w with
      | tup q r =>
        rcases sameSqT g.sub q with (q | ⟨o, q⟩) | ⟨o, its, n, q, c, _⟩
        · exact .base (.tup q)
        · exact .fTuple q
        · exact .kTuple q c
    · cases e
      cases w with
      | lst q r => exact .base (.lst (g.sub _ _ q))
    · cases e
      cases w with
      | dct q => exact .base (.dK (g.sub _ _ q))
    · cases e
  · rename_i hn
    cases e
    obtain ⟨L, w, _⟩ := h
    cases w with
    | p r => exact (hn _ rfl).elim
    | l1 q r => exact .base (.lst q)
    | l2 q r => exact .base (.lst q)

/-! ### operators -/
def fI (C : Int → Int → Prop) (g : Int → Int → T) (x y : S) (Q : S → Prop) : Prop := match x, y with
  | .p (.int i), .p (.int j) => C i j ∧ Q (.p (g i j))
  | _, _ => False
def fI0 (g : Int → Int → T) (x y : S) (Q : S → Prop) : Prop := match x, y with
  | .p (.int i), .p (.int j) => Q (.p (g i j))
  | _, _ => False
theorem opT_I {C : Int → Int → Prop} {gv : Int → Int → V} {g : Int → Int → T} (h : ∀ i j K pa F, Rp K pa F (gv i j) (g i j)) : OpT K (rI C gv) (fI C g) := by
  intro pa F H x y sx sy Qt Q gd bx b_y q k
  unfold fI at q
  split at q
  · obtain rfl := bx.int
    obtain rfl := b_y.int
    exact ⟨_, _, rfl, rfl, q.1, k _ _ F H q.2 (.refl gd) (.pure (h _ _ _ _ _))⟩
  · exact q.elim
theorem opT_I0 {gv : Int → Int → V} {g : Int → Int → T} (h : ∀ i j K pa F, Rp K pa F (gv i j) (g i j)) : OpT K (rI0 gv) (fI0 g) := by
  intro pa F H x y sx sy Qt Q gd bx b_y q k
  unfold fI0 at q
  split at q
  · obtain rfl := bx.int
    obtain rfl := b_y.int
    exact ⟨_, _, rfl, rfl, k _ _ F H q (.refl gd) (.pure (h _ _ _ _ _))⟩
  · exact q.elim
theorem OpT.or {r r' : V → V → Hp → VK → Prop} {f f' : S → S → (S → Prop) → Prop} (h : OpT K r f) (h' : OpT K r' f') : OpT K (fun x y H Q => r x y H Q ∨ r' x y H Q) (fun x y Q => f x y Q ∨ f' x y Q) := by
  intro pa F H x y sx sy Qt Q gd bx b_y q k
  rcases q with q | q
  · exact .inl (h pa F H x y sx sy Qt Q gd bx b_y q k)
  · exact .inr (h' pa F H x y sx sy Qt Q gd bx b_y q k)
theorem OpT.imp {r r' : V → V → Hp → VK → Prop} {f f' : S → S → (S → Prop) → Prop} (h : OpT K r f) (i : ∀ x y Q, f' x y Q → f x y Q) (j : ∀ x y H Q, r x y H Q → r' x y H Q) : OpT K r' f' := by
  intro pa F H x y sx sy Qt Q gd bx b_y q k
  exact j _ _ _ _ (h pa F H x y sx sy Qt Q gd bx b_y (i _ _ _ q) k)
/-- a + b -/
def fAdd (x y : S) (Q : S → Prop) : Prop := match x, y with
  | .p (.int i), .p (.int j) => Q (.p (.int (i + j)))
  | .p (.str i), .p (.str j) => i.length + j.length ≤ sizeLine ∧ Q (.p (.str (i ++ j)))
  | .p (.tup l), .p (.tup m) => l.length + m.length ≤ sizeLine ∧ Q (.p (.tup (l ++ m)))
  | x, y => ∃ l m, x.lst? = some l ∧ y.lst? = some m ∧ l.length + m.length ≤ sizeLine ∧ Q (.l1 (l ++ m))
def rAddA (K : PySem.W.Frag) : V → V → Hp → VK → Prop := fun x y H Q => (∃ i j, x = .int i ∧ y = .int j ∧ Q (.int (i + j)) H) ∨ (∃ i j, x = .str i ∧ y = .str j ∧ i.length + j.length ≤ sizeLine ∧ Q (.str (i ++ j)) H) ∨ rCatA K x y H Q ∨ rCat x y H Q
theorem op_addA {X : Cx} : OpR X (binaryOp .Add) (rAddA X.K) := op_add.or (op_add_str.or (op_catA.or op_cat))
theorem fresh_l1 (g : Good K pa F H) {p : Addr} {vs : List V} {l : List T} (hp : H p = none) (r : Rps K pa F vs l) : Fresh K pa H F (upd H p (.lst vs)) (.ref p) (.l1 l) :=
  ⟨[p], .l1 upd_same r, by simp, fun a ha => by
    obtain rfl : a = p := by simpa using ha
    exact ⟨hp, g.fnone hp⟩⟩
theorem fresh_tup (g : Good K pa F H) {p : Addr} {vs : List V} {l : List T} (hp : H p = none) (r : Rps K pa F vs l) : Fresh K pa H (upd F p (.tup vs)) (upd H p (.tup vs)) (.ref p) (.p (.tup l)) :=
  .pure (.tup (.inl (.inl upd_same)) (r.mono (Grow.laidF g hp).f))
theorem Rps.nil_of {l : List T} (r : Rps K pa F [] l) : l = [] := by cases r; rfl
theorem Rps.cat_nil {vs : List V} {l m : List T} (r : Rps K pa F vs l) (r2 : Rps K pa F [] m) : Rps K pa F vs (l ++ m) := by
  rw [r2.nil_of, List.append_nil]
  exact r
theorem opT_add : OpT K (rAddA K) fAdd := by
  intro pa F H x y sx sy Qt Q gd bx b_y q k
  unfold fAdd at q
  split at q
  · obtain rfl := bx.int
    obtain rfl := b_y.int
    exact .inl ⟨_, _, rfl, rfl, k _ _ F H q (.refl gd) (.pure (.int _))⟩
  · obtain rfl := bx.str
    obtain rfl := b_y.str
    exact .inr (.inl ⟨_, _, rfl, rfl, q.1, k _ _ F H q.2 (.refl gd) (.pure (.str _))⟩)
  · obtain ⟨a, vs, rfl, hx, rx⟩ := bx.tup
    obtain ⟨b, ws, rfl, hy, ry⟩ := b_y.tup
    refine .inr (.inr (.inl ⟨a, b, vs, ws, rfl, rfl, sameSqT gd.sub hx, sameSqT gd.sub hy, by rw [rx.length, ry.length]; exact q.1, fun e => ?_, fun _ e => ?_, fun _ _ p hp => ?_⟩))
    · subst e
      have e2 := rx.nil_of
      subst e2
      exact k _ _ F H q.2 (.refl gd) (.pure (.tup hy ry))
    · subst e
      exact k _ _ F H q.2 (.refl gd) (.pure (.tup hx (rx.cat_nil ry)))
    · exact k _ _ _ _ q.2 (.laidF gd hp) (fresh_tup gd hp (rx.append ry))
  · obtain ⟨l, m, e1, e2, hz, q⟩ := q
    obtain ⟨a, vs, rfl, hx, rx⟩ := bx.lst gd e1
    obtain ⟨b, ws, rfl, hy, ry⟩ := b_y.lst gd e2
    exact .inr (.inr (.inr ⟨a, b, vs, ws, rfl, rfl, hx, hy, by rw [rx.length, ry.length]; exact hz, fun p hp => k _ _ _ _ q (.laid gd hp) (fresh_l1 gd hp (rx.append ry))⟩))
/-- a * b -/
def fMul (x y : S) (Q : S → Prop) : Prop := match x, y with
  | .p (.int i), .p (.int j) => (CMul i j ∨ CMulW i j) ∧ Q (.p (.int (i * j)))
  | x, .p (.int k) => ∃ l, x.lst? = some l ∧ -(2 ^ 63) ≤ k ∧ k < 2 ^ 63 ∧ l.length * k.toNat ≤ sizeLine ∧ Q (.l1 (List.replicate k.toNat l).flatten)
  | _, _ => False
def rMulA : V → V → Hp → VK → Prop := fun x y H Q => (rI CMul (fun i j => .int (i * j)) x y H Q ∨ rI CMulW (fun i j => .int (i * j)) x y H Q) ∨ rRep x y H Q
theorem op_mulA {X : Cx} : OpR X (binaryOp .Mult) rMulA := (op_mul.or op_mulW).or op_rep
theorem Rps.rep {vs : List V} {l : List T} (r : Rps K pa F vs l) : ∀ n : Nat, Rps K pa F (List.replicate n vs).flatten (List.replicate n l).flatten
  | 0 => .nil
  | n + 1 => by
    rw [List.replicate_succ, List.replicate_succ, List.flatten_cons, List.flatten_cons]
    exact r.append (Rps.rep r n)
theorem opT_mul : OpT K rMulA fMul := by
  intro pa F H x y sx sy Qt Q gd bx b_y q k
  unfold fMul at q
  split at q
  · obtain rfl := bx.int
    obtain rfl := b_y.int
    rcases q.1 with c | c
    · exact .inl (.inl ⟨_, _, rfl, rfl, c, k _ _ F H q.2 (.refl gd) (.pure (.int _))⟩)
    · exact .inl (.inr ⟨_, _, rfl, rfl, c, k _ _ F H q.2 (.refl gd) (.pure (.int _))⟩)
  · obtain ⟨l, e, h1, h2, h3, q⟩ := q
    obtain ⟨a, vs, rfl, hx, rx⟩ := bx.lst gd e
    obtain rfl := b_y.int
    exact .inr ⟨a, _, vs, rfl, rfl, hx, h1, h2, by rw [rx.length]; exact h3, fun p hp => k _ _ _ _ q (.laid gd hp) (fresh_l1 gd hp (rx.rep _))⟩
  · exact q.elim
/-! a == b of flat things, of data -/
mutual
def T.dat : T → PyData
  | .non => .none
  | .bl b => .bool b
  | .int i => .int i
  | .str x => .str x
  | .tup l => .tuple (T.dats l)
  | .lst l => .list (T.dats l)
  | _ => .dict []
def T.dats : List T → List PyData
  | [] => []
  | t :: l => t.dat :: T.dats l
end
mutual
theorem Rp.dp (g : Same F H) : ∀ {v : V} {t : T}, Rp K pa F v t → t.dat.canLay0 = true → Dp K H v t.dat
  | _, _, .non, _ => .non
  | _, _, .bl b, _ => .bl b
  | _, _, .int i, _ => .int i
  | _, _, .str x, _ => .str x
  | _, _, .ty n, h => by simp [T.dat, PyData.canLay0] at h
  | _, _, .pool, h => by simp [T.dat, PyData.canLay0] at h
  | _, _, .dct _, h => by simp [T.dat, PyData.canLay0] at h
  | _, _, .tup q r, h => .tup (sameSqT g q) (Rps.dp g r (by simpa [T.dat, PyData.canLay0] using h))
  | _, _, .lst q r, h => .lst (.inl (.inl (g _ _ q))) (Rps.dp g r (by simpa [T.dat, PyData.canLay0] using h))
theorem Rps.dp (g : Same F H) : ∀ {vs : List V} {l : List T}, Rps K pa F vs l → PyData.canLayAll0 (T.dats l) = true → DpAll K H vs (T.dats l)
  | _, _, .nil, _ => .nil
  | _, _, .cons h r, e => by
    have e : (PyData.canLay0 _ && PyData.canLayAll0 _) = true := e
    rw [Bool.and_eq_true] at e
    exact .cons (Rp.dp g h e.1) (Rps.dp g r e.2)
end
theorem RepB.dp (g : Good K pa F H) (h : RepB K pa F H v s) (c : s.fz.dat.canLay0 = true) (n : ∀ l, s ≠ .l2 l) : Dp K H v s.fz.dat := by
  obtain ⟨L, w, _⟩ := h
  cases w with
  | p r => exact r.dp g.sub c
  | l1 q r => exact .lst (.inl (.inl q)) (r.dp g.sub (by simpa [S.fz, T.dat, PyData.canLay0] using c))
  | l2 q r => exact absurd rfl (n _)
def S.shaped (s : S) : Prop := SeqAt.shaped s.fz.dat = true ∧ ∀ l, s ≠ .l2 l
def fEq (x y : S) (Q : S → Prop) : Prop := match x, y with
  | .p (.int i), .p (.int j) => Q (.p (.bl (decide (i = j))))
  | .p (.str i), .p (.str j) => Q (.p (.bl (decide (i = j))))
  | .p (.bl i), .p (.bl j) => Q (.p (.bl (decide (i = j))))
  | x, y => x.shaped ∧ y.shaped ∧ Q (.p (.bl (PyData.eqv x.fz.dat y.fz.dat)))
def fNe (x y : S) (Q : S → Prop) : Prop := match x, y with
  | .p (.int i), .p (.int j) => Q (.p (.bl (!decide (i = j))))
  | .p (.str i), .p (.str j) => Q (.p (.bl (!decide (i = j))))
  | .p (.bl i), .p (.bl j) => Q (.p (.bl (!decide (i = j))))
  | x, y => x.shaped ∧ y.shaped ∧ Q (.p (.bl (!PyData.eqv x.fz.dat y.fz.dat)))
theorem dec_V {α : Type} {f : α → V} (inj : ∀ a b, f a = f b → a = b) {a b : α} [DecidableEq α] : decide (f a = f b) = decide (a = b) := by
  by_cases h : a = b
  · subst h; simp
  · rw [decide_eq_false h, decide_eq_false fun e => h (inj _ _ e)]
theorem opT_eq : OpT K (fun x y H Q => rEq x y H Q ∨ rEqD K x y H Q) fEq := by
  intro pa F H x y sx sy Qt Q gd bx b_y q k
  unfold fEq at q
  split at q
  · obtain rfl := bx.int
    obtain rfl := b_y.int
    exact .inl ⟨rfl, by rw [dec_V (f := V.int) fun _ _ e => V.int.inj e]; exact k _ _ F H q (.refl gd) (.pure (.bl _))⟩
  · obtain rfl := bx.str
    obtain rfl := b_y.str
    exact .inl ⟨rfl, by rw [dec_V (f := V.str) fun _ _ e => V.str.inj e]; exact k _ _ F H q (.refl gd) (.pure (.bl _))⟩
  · obtain rfl := bx.bl
    obtain rfl := b_y.bl
    exact .inl ⟨rfl, by rw [dec_V (f := V.bl) fun _ _ e => V.bl.inj e]; exact k _ _ F H q (.refl gd) (.pure (.bl _))⟩
  · obtain ⟨⟨h1, n1⟩, ⟨h2, n2⟩, q⟩ := q
    exact .inr ⟨_, _, bx.dp gd (SeqAt.canLay_of_shaped h1) n1, b_y.dp gd (SeqAt.canLay_of_shaped h2) n2, h1, h2, k _ _ F H q (.refl gd) (.pure (.bl _))⟩
theorem opT_ne : OpT K (fun x y H Q => rNe x y H Q ∨ rNeD K x y H Q) fNe := by
  intro pa F H x y sx sy Qt Q gd bx b_y q k
  unfold fNe at q
  split at q
  · obtain rfl := bx.int
    obtain rfl := b_y.int
    exact .inl ⟨rfl, by rw [dec_V (f := V.int) fun _ _ e => V.int.inj e]; exact k _ _ F H q (.refl gd) (.pure (.bl _))⟩
  · obtain rfl := bx.str
    obtain rfl := b_y.str
    exact .inl ⟨rfl, by rw [dec_V (f := V.str) fun _ _ e => V.str.inj e]; exact k _ _ F H q (.refl gd) (.pure (.bl _))⟩
  · obtain rfl := bx.bl
    obtain rfl := b_y.bl
    exact .inl ⟨rfl, by rw [dec_V (f := V.bl) fun _ _ e => V.bl.inj e]; exact k _ _ F H q (.refl gd) (.pure (.bl _))⟩
  · obtain ⟨⟨h1, n1⟩, ⟨h2, n2⟩, q⟩ := q
    exact .inr ⟨_, _, bx.dp gd (SeqAt.canLay_of_shaped h1) n1, b_y.dp gd (SeqAt.canLay_of_shaped h2) n2, h1, h2, k _ _ F H q (.refl gd) (.pure (.bl _))⟩
/-- is None -/
def S.isNon : S → Bool
  | .p .non => true
  | _ => false
theorem RepB.isNon (h : RepB K pa F H v s) : decide (v = .non) = s.isNon := by
  unfold S.isNon
  split
  · obtain rfl := h.non; rfl
  · rename_i n
    refine decide_eq_false fun e => ?_
    subst e
    obtain ⟨L, w, _⟩ := h
    cases w with
    | p r => cases r; exact n rfl
def fIsN (x y : S) (Q : S → Prop) : Prop := match y with
  | .p .non => Q (.p (.bl x.isNon))
  | _ => False
def fNotN (x y : S) (Q : S → Prop) : Prop := match y with
  | .p .non => Q (.p (.bl (!x.isNon)))
  | _ => False
theorem opT_isN : OpT K (fun x y H Q => y = .non ∧ Q (.bl (decide (x = .non))) H) fIsN := by
  intro pa F H x y sx sy Qt Q gd bx b_y q k
  unfold fIsN at q
  split at q
  · obtain rfl := b_y.non
    exact ⟨rfl, by rw [bx.isNon]; exact k _ _ F H q (.refl gd) (.pure (.bl _))⟩
  · exact q.elim
theorem opT_notN : OpT K (fun x y H Q => y = .non ∧ Q (.bl (!decide (x = .non))) H) fNotN := by
  intro pa F H x y sx sy Qt Q gd bx b_y q k
  unfold fNotN at q
  split at q
  · obtain rfl := b_y.non
    exact ⟨rfl, by rw [bx.isNon]; exact k _ _ F H q (.refl gd) (.pure (.bl _))⟩
  · exact q.elim
/-- x[i] -/
def S.at? (s : S) (i : Int) : Option T := match s with
  | .p (.lst l) => atI l i
  | .p (.tup l) => atI l i
  | .l1 l => atI l i
  | _ => none
def fIx (x y : S) (Q : S → Prop) : Prop := match y with
  | .p (.int i) => ∃ t, x.at? i = some t ∧ Q (.p t)
  | _ => False
theorem Rps.atI {vs : List V} {l : List T} {i : Int} {t : T} (r : Rps K pa F vs l) (e : atI l i = some t) : ∃ v, L2.atI vs i = some v ∧ Rp K pa F v t := by
  unfold L2.atI at e ⊢
  rw [r.length]
  cases h : ixN l.length i with
  | none => rw [h] at e; cases e
  | some j =>
    rw [h] at e
    exact r.get (by simpa using e)
theorem opT_ix : OpT K (rIx K) fIx := by
  intro pa F H x y sx sy Qt Q gd bx b_y q k
  unfold fIx at q
  split at q
  · obtain ⟨t, e, q⟩ := q
    obtain rfl := b_y.int
    unfold S.at? at e
    split at e
    · obtain ⟨a, vs, rfl, hx, rx⟩ := bx.lst gd rfl
      obtain ⟨v, e1, w⟩ := rx.atI e
      exact .inl ⟨a, vs, _, v, rfl, rfl, .inl (.inl hx), e1, k _ _ F H q (.refl gd) (.pure w)⟩
    · obtain ⟨a, vs, rfl, hx, rx⟩ := bx.tup
      obtain ⟨v, e1, w⟩ := rx.atI e
      exact .inr (.inl ⟨a, vs, _, v, rfl, rfl, sameSqT gd.sub hx, e1, k _ _ F H q (.refl gd) (.pure w)⟩)
    · obtain ⟨a, vs, rfl, hx, rx⟩ := bx.lst gd rfl
      obtain ⟨v, e1, w⟩ := rx.atI e
      exact .inl ⟨a, vs, _, v, rfl, rfl, .inl (.inl hx), e1, k _ _ F H q (.refl gd) (.pure w)⟩
    · cases e
  · exact q.elim
end
end TLY

/-! Tree layer, part A: rules that the hand layer lacks: sum of a tuple, enumerate of a tuple, a tuple read backwards. -/
namespace TLY
open PySem PySem.Spec PyProof.Rows L2
section
variable {X : Cx}
theorem sum_rawT {prog : Program} {w : World} {A : Around} {E : Value → Shared → Prop} {s : Shared} {l : Addr} {its : List Value} {ns : List Int} {Q : Value → Shared → Prop} (hh : A.handled = none) (hl : s.heap.IsTuple l its.toArray) (hi : IntsAre its ns)
    (h : ∀ h' tk t', (∀ b o, s.heap.get? b = some o → h'.get? b = some o) → Q (.int ns.sum t') { s with heap := h', toks := tk }) : wpAny (model prog w) A (call (.builtin "sum") [.ref l]) Q E s := by
  obtain ⟨xs, e⟩ := hi.allInts.items
  have hn : numsOf (intItems xs).toList = ns := by rw [← e]; exact hi.numsOf
  rw [nums_intItems] at hn
  rw [e] at hl
  refine PySem.W.ktm_sumG hh hl fun h' tk t' hk => ?_
  have := h h' tk t' hk
  rw [preSum_eq, List.take_of_length_le (by simp), hn]; exact this
def rSumA (K : PySem.W.Frag) : List V → Hp → VK → Prop := fun vs H Q => ∃ (a : Addr) (ns : List Int), vs = [V.ref a] ∧ (SqL K H a (ns.map V.int) ∨ SqT K H a (ns.map V.int)) ∧ Q (.int ns.sum) H
theorem cr_sumA (hc : X.calm = true) : CallR X (.builtin "sum") (rSumA X.K) := by
  intro pins s σ H vs us Q I r h
  obtain ⟨a, ns, rfl, hs, q⟩ := h
  rw [Vals.ref1 r]
  rcases hs with hs | hs
  · obtain ⟨its, rv, hl, _⟩ := I.list hs
    exact sum_raw (I.ok.hd hc) hl.isList rv.ints fun h' tk t' hk => ⟨.int _, H, I.kept hk, ⟨_, rfl⟩, q⟩
  · obtain ⟨its, rv, hl, _⟩ := I.tuple hs
    exact sum_rawT (I.ok.hd hc) (show s.heap.IsTuple a its.toArray from hl) rv.ints fun h' tk t' hk => ⟨.int _, H, I.kept hk, ⟨_, rfl⟩, q⟩

/-! ### enumerate(tuple) -/
theorem meets_enumerate_newT (l : Addr) (items : Array Value) (n : Nat) (dct : Option Addr) (sl : Array (Option Value)) :
    Meets (Builtin.«enumerate.__new__» ⟨[.type "enumerate", .ref l], []⟩) (fun _ R s => s.heap.get? l = some { cls := .type "tuple", dict := dct, data := .seq items n, slots := sl } ∧
      R (.ok (.ret (.ref (s.heap.push { cls := .type "tuple_iterator", data := .fields #[.ref l, .int 0 0] }).objs.size)))
        { s with heap := (s.heap.push { cls := .type "tuple_iterator", data := .fields #[.ref l, .int 0 0] }).push { cls := .type "enumerate", data := .fields #[.none, .bool false, .ref s.heap.objs.size, rawInt 0, .none, .none] } }) :=
  .of_wp fun prog w A R s h => by
    obtain ⟨hp, g, d, tk, os⟩ := s; obtain ⟨hl, h⟩ := h
    have hsub := sub_enumerate
    have hL : Heap.IsTuple (Shared.heap ⟨hp, g, d, tk, os⟩) l items := ⟨_, hl, rfl, n, rfl⟩
    wp_walk using AutoSeq1.wpAny_loadPart' hl
    refine wpAny_stack_any fun st => wpAny_pure ?_
    split
    · rename_i c _ _ _ _ _
      cases (c == Value.type "enumerate")
      · wp_walk using AutoSeq1.wpAny_loadPart' hl, wpAny_pyIter_tuple hL
        exact ⟨_, rfl, h⟩
      · wp_walk using AutoSeq1.wpAny_loadPart' hl, wpAny_pyIter_tuple hL
        exact ⟨_, rfl, h⟩
    · wp_walk using AutoSeq1.wpAny_loadPart' hl, wpAny_pyIter_tuple hL
      exact ⟨_, rfl, h⟩
theorem call_enumerate_tuple {prog : Program} {w : World} {A : Around} {E : Value → Shared → Prop} {s : Shared} {l : Addr} {items : Array Value} {Q : Value → Shared → Prop} (hL : s.heap.IsTuple l items)
    (h : ∀ h', IsEnum h' (s.heap.objs.size + 1) s.heap.objs.size 0 .none → h'.IsTupleIter s.heap.objs.size l 0 → h'.objs.size = s.heap.objs.size + 2 →
      (∀ b o, s.heap.get? b = some o → h'.get? b = some o) → Q (.ref (s.heap.objs.size + 1)) { s with heap := h' }) :
    wpAny (model prog w) A (call (.type "enumerate") [.ref l]) Q E s := by
  obtain ⟨⟨c, dct, dt, sl⟩, hl, hc, n, hd⟩ := hL
  replace hc : c = .type "tuple" := hc
  replace hd : dt = .seq items n := hd
  subst hc hd
  refine callType_new F.called_enumerate (by decide) (F.typeCall_enumerate_1 _) (F.newCall_enumerate_1 _) (fun obj => F.args_object_init_2 obj _) F.entry_enumerate_new
    (meets_enumerate_newT l items n dct sl) ⟨hl, ?_⟩
  have hz : (s.heap.push { cls := .type "tuple_iterator", data := .fields #[.ref l, .int 0 0] }).objs.size = s.heap.objs.size + 1 := Heap.size_push ..
  show _ ∧ _
  rw [hz]
  have he : IsEnum ((s.heap.push { cls := .type "tuple_iterator", data := .fields #[.ref l, .int 0 0] }).push
      { cls := .type "enumerate", data := .fields #[.none, .bool false, .ref s.heap.objs.size, rawInt 0, .none, .none] }) (s.heap.objs.size + 1) s.heap.objs.size 0 .none := by
    have := Heap.get?_push_size (s.heap.push { cls := .type "tuple_iterator", data := .fields #[.ref l, .int 0 0] })
      (o := { cls := .type "enumerate", data := .fields #[.none, .bool false, .ref s.heap.objs.size, rawInt 0, .none, .none] }) rfl
    rw [hz] at this; exact this
  refine ⟨⟨_, he, rfl⟩, h _ he ⟨_, Heap.get?_push_of_some _ (Heap.get?_push_size _ rfl), rfl, rfl⟩ (by rw [Heap.size_push, hz]) fun b o x => Heap.get?_push_of_some _ (Heap.get?_push_of_some _ x)⟩
theorem pyNext_enum_endT {prog : Program} {w : World} {A : Around} {E : Value → Shared → Prop} {s : Shared} {e it l : Addr} {i : Nat} {items : Array Value} {old : Value} {Q : Option Value → Shared → Prop} (hh : A.handled = none)
    (he : IsEnum s.heap e it i old) (hit : s.heap.IsTupleIter it l i) (hl : s.heap.IsTuple l items) (hx : items[i]? = none)
    (hQ : ∀ h', Heap.ExtBut it s.heap h' → Q none { s with heap := h' }) : wpAny (model prog w) A (pyNext (.ref e)) Q E s := by
  have hT : s.TypeIs (.ref e) "enumerate" := ⟨_, he, rfl⟩
  unfold pyNext
  refine wpAny_bind (wpAny_attempt (wpAny_callSpecial?_slot (name := Str.ofString "__next__") hT F.slot_enumerate_next
    (wpAny_call_entry F.slot_enumerate_next hT F.entry_enumerate_next ?_ (F.args_enumerate_next_1 _))))
  show wpAny _ _ (field (.ref e) 2 >>= _) _ _ _
  refine wpAny_bind (wpAny_field he rfl (x := .ref it) rfl ?_)
  refine wpAny_bind (wpAny_nextOf_tuple_end hh hit hl hx fun h' x he' hx' => ?_)
  obtain ⟨o, ho, hc⟩ := hx'
  refine wpAny_bind (wpAny_isInstance (T := "StopIteration") (b := true) ⟨o, ho, hc⟩ isSubtype_stop ?_)
  exact wpAny_pure (hQ _ he')
def IteT (K : PySem.W.Frag) (a : Addr) : It :=
  ⟨fun i H => ∃ (xs : List V) (x : V), SqT K H a xs ∧ xs[i]? = some x, fun i H v H' => ∃ T x, v = .ref T ∧ H T = none ∧ H' = upd H T (.tup [.int (i : Nat), x]) ∧ ∀ xs, SqT K H a xs → xs[i]? = some x, fun i H => ∃ xs : List V, SqT K H a xs ∧ xs.length ≤ i⟩
theorem turn_enumT {P : Program} {w : World} {K : PySem.W.Frag} {elts : List Expr} {kk : Nat} {tpos : Pos} (a e it : Addr) (hai : a ≠ it) :
    Turn P w K (.Tuple elts kk tpos) (IteT K a) [e, it] e (fun i h => (∃ old, IsEnum h e it ((i : Nat) : Int) old) ∧ h.IsTupleIter it a i ∧ e ≠ it ∧ a ≠ e) where
  mem := by simp
  obj := fun i h st b hb => by
    obtain ⟨⟨old, he⟩, ⟨o, ho, hc, hd⟩, _⟩ := st
    have e' : b = e ∨ b = it := by simpa using hb
    rcases e' with z | z
    · rw [z]; exact ⟨_, he, fun v q => nomatch q⟩
    · rw [z]; exact ⟨o, ho, fun v q => by rw [hd] at q; cases q⟩
  keep := fun i h h' st k => let ⟨⟨old, he⟩, hi, hne⟩ := st; ⟨⟨old, k e (by simp) _ he⟩, hi.at fun o q => k it (by simp) o q, hne⟩
  item := by
    intro X hP hw hK hc i pins s σ H E I hf st hg
    subst hP hw hK
    obtain ⟨⟨old, he⟩, hit, hne, hae⟩ := st
    obtain ⟨xs, x, hq, hx⟩ := hg
    obtain ⟨its, rv, p, hz⟩ := I.tuple hq
    obtain ⟨u, hu, ru⟩ := rv.get hx
    have hel : e < s.heap.objs.size := Heap.lt_size he
    have hil : it < s.heap.objs.size := by obtain ⟨_, q, _⟩ := hit; exact Heap.lt_size q
    have hlt : i < its.toArray.size := by
      rw [List.size_toArray]
      exact (List.getElem?_eq_some_iff.mp hu).1
    refine wpAny_pyNext_enum_itemD (Draws.tuple (A := X.A.in1) (by simpa [Around.in1] using I.ok.hd hc) it a hai its.toArray) he ⟨hit, (show s.heap.IsTuple a its.toArray from p)⟩ hlt hne (by simp [hne, hae.symm]) fun u2 h' tk hu2 ho hit' hT hsz hk => ?_
    have hu2 : its.toArray[i]? = some u2 := hu2
    obtain rfl : u = u2 := by
      have q : its[i]? = some u2 := by simpa using hu2
      rw [hu] at q
      exact Option.some.inj q
    refine ⟨_, rfl, wpAny_letOwnedTupleGo_enum (s := { s with heap := h', toks := tk + 1 }) ho fun h'' he' sb => ?_⟩
    have hT2 : h''.get? s.heap.objs.size = some { cls := .type "tuple", data := .seq #[.int i tk, u] } := (sb.2 _ (Nat.ne_of_gt hel)).trans hT
    have new : ObjOk X.prog X.w (upd H s.heap.objs.size (.tup [.int (i : Nat), x])) h'' s.heap.objs.size (.tup [.int (i : Nat), x]) :=
      ⟨by show 2 ≤ sizeLine; decide, [.int i tk, u], .cons ⟨_, rfl⟩ (.cons ru .nil), ⟨_, hT2, rfl, _, rfl⟩⟩
    have I1 : Inv X pins σ (upd H s.heap.objs.size (.tup [.int (i : Nat), x])) { s with heap := h'', toks := tk + 1 } :=
      I.turnedNew (ch := [e, it]) (fun b ob hb q => (sb.2 b (fun z => hb (by simp [z]))).trans (hk b ob (fun z => hb (by simp [z])) (fun z => hb (by simp [z])) q)) hf (Nat.le_refl _) new
    refine ⟨.ref s.heap.objs.size, _, I1, rfl, ⟨_, x, rfl, I.hok.fresh (Nat.le_refl _), rfl, fun ys hy => by rw [I.tuple_inj hy hq]; exact hx⟩, ⟨⟨u, ?_⟩, hit'.1.at fun o q => (sb.2 it (Ne.symm hne)).trans q, hne, hae⟩, fun b hb => ?_⟩
    · have e1 : ((i + 1 : Nat) : Int) = (i : Int) + 1 := by omega
      rw [e1]; exact he'
    · have hb' : b < s.heap.objs.size := by
        have e' : b = e ∨ b = it := by simpa using hb
        rcases e' with z | z
        · rw [z]; exact hel
        · rw [z]; exact hil
      rw [upd_ne (Nat.ne_of_lt hb')]
      exact (hf b hb).1
  done := by
    intro X hP hw hK hc i pins s σ H E I hf st hg
    subst hP hw hK
    obtain ⟨⟨old, he⟩, hit, hne, hae⟩ := st
    obtain ⟨xs, hq, hx⟩ := hg
    obtain ⟨its, rv, p, hz⟩ := I.tuple hq
    obtain ⟨f0, f1, f2, f3, f4, f5⟩ := hf it (by simp)
    have hl := rv.length
    exact pyNext_enum_endT (I.ok.hd hc) he hit (show s.heap.IsTuple a its.toArray from p) (by simp; omega) fun h' eb => ⟨rfl, I.turned (t' := s.toks) (fun b o hb q => eb b o hb q) f0 f1 f3 f4 f5⟩
  self := fun A i s Q E st h => let ⟨⟨_, he⟩, _⟩ := st; wpAny_pyIter_enum he h
def iEnumA (K : PySem.W.Frag) (ta : TA) : TI := fun σ H R => ta σ H fun vs H1 => ∃ a xs, vs = [.ref a] ∧ ((SqL K H1 a xs ∧ R (Ite K a) H1) ∨ (SqT K H1 a xs ∧ R (IteT K a) H1))
theorem pi_enumA {e : Expr} {ta : TA} {p pos tpos : Pos} {elts : List Expr} {kk : Nat} (hg : Gl X "enumerate") (hm : X.mg "enumerate" = none) (ha : PA X [e] ta) (hs : starEach [e] X.env = [(false, eval e X.env)] := by rfl) :
    PI X (.Tuple elts kk tpos) (.Call (.Name "enumerate" p) [e] [] pos) (iEnumA X.K ta) := by
  refine ⟨fun pins s σ H R I h => ?_⟩
  refine Call_ (ld_blt I hg hm boot_enumerate (PyProof.Rows.callWith_type1 (thn (ha.run pos pins s σ H _ I h) fun us s1 ⟨vs, H1, I1, r1, q1⟩ => ?_) hs rfl))
  obtain ⟨a, xs, ex, q1⟩ := q1
  subst ex
  cases r1 with
  | cons r rr =>
    cases rr
    cases r
    have fr : ∀ b, b ∈ [s1.heap.objs.size + 1, s1.heap.objs.size] → FpOk X pins H1 b := fun b hb => by
      have e' : b = s1.heap.objs.size + 1 ∨ b = s1.heap.objs.size := by simpa using hb
      have hle : s1.heap.objs.size ≤ b := by
        rcases e' with z | z
        · rw [z]; exact Nat.le_add_right _ _
        · rw [z]; exact Nat.le_refl _
      exact I1.fpOk hle (I1.hok.fresh hle)
    rcases q1 with ⟨hq, q⟩ | ⟨hq, q⟩
    · obtain ⟨its, rv, p', hz⟩ := I1.list hq
      refine call_enumerate_list p'.isList fun h' he hit hsz hk => wpAny_pyIter_enum he ?_
      have I2 : Inv X pins σ H1 { s1 with heap := h' } := I1.kept (t' := s1.toks) hk
      exact ⟨s1.heap.objs.size + 1, [s1.heap.objs.size + 1, s1.heap.objs.size], _, _, H1, rfl, I2, turn_enum a (s1.heap.objs.size + 1) s1.heap.objs.size, ⟨⟨.none, he⟩, hit, Nat.succ_ne_self _⟩, fr, q⟩
    · obtain ⟨its, rv, p', hz⟩ := I1.tuple hq
      refine call_enumerate_tuple (show s1.heap.IsTuple a its.toArray from p') fun h' he hit hsz hk => wpAny_pyIter_enum he ?_
      have I2 : Inv X pins σ H1 { s1 with heap := h' } := I1.kept (t' := s1.toks) hk
      have ha1 : a < s1.heap.objs.size := by
        obtain ⟨_, q0, _⟩ := p'
        exact Heap.lt_size q0
      exact ⟨s1.heap.objs.size + 1, [s1.heap.objs.size + 1, s1.heap.objs.size], _, _, H1, rfl, I2, turn_enumT a (s1.heap.objs.size + 1) s1.heap.objs.size (Nat.ne_of_lt ha1), ⟨⟨.none, he⟩, hit, Nat.succ_ne_self _, Nat.ne_of_lt (Nat.lt_succ_of_lt ha1)⟩, fr, q⟩
theorem walk_enumT {K : PySem.W.Frag} {a : Addr} {xs : List V} : Walk (IteT K a) xs.length (fun H => SqT K H a xs) (YPair (fun i => some (.int (i : Nat))) (fun i => xs[i]?)) := by
  refine ⟨fun i _ hi q => ⟨xs, xs[i], q, by simp [hi]⟩, fun _ q => ⟨xs, q, Nat.le_refl _⟩, fun i H v H' _ q y => ?_⟩
  obtain ⟨T, x, h1, h2, h3, h4⟩ := y
  exact ⟨T, .int (i : Nat), x, h1, h2, h3, rfl, h4 xs q⟩
theorem walk_zipT {K : PySem.W.Frag} {a b : Addr} {xs ys : List V} {n : Nat} (hn : n = min xs.length ys.length) : Walk (RZ.ItzT K a b) n (fun H => SqT K H a xs ∧ SqT K H b ys) (YPair (fun i => xs[i]?) (fun i => ys[i]?)) := by
  subst hn
  refine ⟨fun i _ hi q => ?_, fun _ q => ⟨xs, ys, q.1, q.2, by omega⟩, fun i H v H' _ q y => ?_⟩
  · have h1 : i < xs.length := by omega
    have h2 : i < ys.length := by omega
    exact ⟨xs, ys, xs[i], ys[i], q.1, q.2, by simp [h1], by simp [h2]⟩
  · obtain ⟨T, x, z, h1, h2, h3, h4, h5⟩ := y
    exact ⟨T, x, z, h1, h2, h3, h4 xs q.1, h5 ys q.2⟩

/-! ### t[::-1] of a tuple -/
section
variable {prog : Program} {w : World} {A : Around} {E : Value → Shared → Prop} {s : Shared}
theorem places_back (n : Nat) : Builtin.Slice.slicePlaces ((n : Int) - 1) (-1) (-1) = n := by
  unfold Builtin.Slice.slicePlaces
  rw [if_neg (by omega)]
  by_cases h : n = 0
  · subst h; rfl
  · rw [if_pos (by omega)]
    have e : ((n : Int) - 1 - -1 - 1) = (n : Int) - 1 := by omega
    have e2 : (- -1 : Int) = 1 := by decide
    rw [e, e2, Int.ediv_one]
    omega
theorem sliceApplied_back {sl : Addr} {vs : Value} {n : Nat} {Q : Int × Int × Nat → Shared → Prop} (hs : s.heap.IsSliceOf sl .none .none vs) (ps : IsPart vs (some (-1)))
    (h : Q ((n : Int) - 1, -1, n) s) : wpAny (model prog w) A (Builtin.Slice.sliceApplied (.ref sl) (pure (n : Int))) Q E s := by
  obtain ⟨os, hos, hcs, hds⟩ := id hs
  unfold Builtin.Slice.sliceApplied Builtin.Slice.sliceFields
  refine wpAny_bind (wpAny_bind (wpAny_field hos hds (x := .none) rfl (wpAny_bind (wpAny_field hos hds (x := .none) rfl (wpAny_bind (wpAny_field hos hds (x := vs) rfl (wpAny_pure ?_)))))))
  refine wpAny_bind (HT.slicePart_ ps ?_)
  show wpAny _ _ (if ((-1 : Int) == 0) = true then _ else _) _ _ s
  rw [if_neg (by decide)]
  refine wpAny_bind (slicePart_none (wpAny_bind (slicePart_none (wpAny_bind (wpAny_pure ?_)))))
  show wpAny _ _ (pure (((n : Int) - 1), (-1 : Int), Builtin.Slice.slicePlaces ((n : Int) - 1) (-1) (-1))) _ _ s
  rw [places_back]
  exact wpAny_pure h
theorem pick_back_aux (xs : List Value) : ∀ n : Nat, n ≤ xs.length → (List.range n).filterMap (fun (m : Nat) => xs[((n : Int) - 1 + (m : Int) * (-1)).toNat]?) = (xs.take n).reverse
  | 0, _ => by simp
  | n + 1, h => by
    have ih := pick_back_aux xs n (by omega)
    rw [List.range_succ_eq_map, List.filterMap_cons]
    have e0 : (((n + 1 : Nat) : Int) - 1 + ((0 : Nat) : Int) * (-1)).toNat = n := by omega
    rw [e0, List.getElem?_eq_getElem (by omega)]
    rw [List.filterMap_map]
    have e1 : ((fun (m : Nat) => xs[(((n + 1 : Nat) : Int) - 1 + (m : Int) * (-1)).toNat]?) ∘ Nat.succ) = fun (m : Nat) => xs[((n : Int) - 1 + (m : Int) * (-1)).toNat]? := by
      funext m
      show xs[(((n + 1 : Nat) : Int) - 1 + ((m + 1 : Nat) : Int) * (-1)).toNat]? = _
      have : (((n + 1 : Nat) : Int) - 1 + ((m + 1 : Nat) : Int) * (-1)).toNat = ((n : Int) - 1 + (m : Int) * (-1)).toNat := by omega
      rw [this]
    rw [e1, ih, show xs.take (n + 1) = xs.take n ++ [xs[n]] from by rw [List.take_add_one, List.getElem?_eq_getElem (by omega)]; rfl]
    rw [List.reverse_append]
    rfl
theorem pick_back (xs : Array Value) : ((List.range xs.size).filterMap fun (m : Nat) => xs[((xs.size : Int) - 1 + (m : Int) * (-1)).toNat]?).toArray = xs.toList.reverse.toArray := by
  have h := pick_back_aux xs.toList xs.toList.length (Nat.le_refl _)
  rw [List.take_length] at h
  rw [← h]
  simp
theorem getItem_tuple_back {t sl : Addr} {items : Array Value} {vs : Value} {Q : Value → Shared → Prop} (ht : IsTup s.heap t items) (hs : s.heap.IsSliceOf sl .none .none vs) (ps : IsPart vs (some (-1)))
    (h : Q (.ref s.heap.objs.size) { s with heap := s.heap.push { cls := .type "tuple", data := .seq items.toList.reverse.toArray } })
    (hsz : items.size ≤ sizeLine) : wpAny (model prog w) A (getItem (.ref t) (.ref sl)) Q E s := by
  have htake : sizeOk (.seq items.toList.reverse.toArray) := by
    show items.toList.reverse.toArray.size ≤ sizeLine
    rw [List.size_toArray, List.length_reverse, Array.length_toList]
    exact hsz
  obtain ⟨os, hos, hcs, hds⟩ := id hs
  have hTs : s.TypeIs (.ref sl) "slice" := ⟨os, hos, hcs⟩
  unfold getItem
  try with_reducible refine wpAny_holding ?_
  first | refine wpAny_bind (wpAny_pure ?_) | skip
  refine wpAny_bind (wpAny_sequenceKey ht.typeIs (by decide) ?_)
  refine wpAny_bind (wpAny_callSpecial?_slot (name := Str.ofString "__getitem__") ht.typeIs PyProof.Rows.slot_tuple_getitem
    (wpAny_call_entry PyProof.Rows.slot_tuple_getitem ht.typeIs entry_tuple_getitem ?_ (args_tuple_getitem _ _)))
  show wpAny _ _ (Builtin.Tuple.tupleItemsOf (.ref t) >>= _) _ _ s
  refine wpAny_bind (tupleItemsOf_ ht ?_)
  refine wpAny_bind (wpAny_typeOf hTs ?_)
  rw [if_pos (by decide)]
  refine wpAny_bind (sliceApplied_back hs ps ?_)
  have hno : ¬ ((((items.size : Int) - 1) == 0 && (-1 : Int) == 1 && items.size == items.size) = true) := by
    intro q
    rw [Bool.and_eq_true, Bool.and_eq_true] at q
    exact absurd (eq_of_beq q.1.2) (by decide)
  show wpAny _ _ (if (((items.size : Int) - 1) == 0 && (-1 : Int) == 1 && items.size == items.size) = true then _ else _) _ _ s
  rw [if_neg hno, pick_back]
  first
    | exact wpAny_bind (m := Builtin.Tuple.tupleExact _) (wpAny_newObj_type (wpAny_pure ⟨_, rfl, wpAny_pure h⟩) htake)
    | exact wpAny_bind (m := Builtin.Tuple.tupleExact _) (wpAny_newObj_type (wpAny_bind (wpAny_pure (wpAny_pure ⟨_, rfl, wpAny_pure h⟩))) htake)
    | exact wpAny_bind (wpAny_bind (m := Builtin.Tuple.tupleExact _) (wpAny_newObj_type (wpAny_pure (wpAny_pure ⟨_, rfl, wpAny_pure h⟩)) htake))
    | exact wpAny_bind (wpAny_bind (m := Builtin.Tuple.tupleExact _) (wpAny_newObj_type (wpAny_pure ⟨_, rfl, wpAny_pure h⟩) htake))
end
def tRevA (K : PySem.W.Frag) (te : TE) : TE := fun σ H Q => te σ H fun x H1 => ∃ a xs, x = .ref a ∧ ((SqL K H1 a xs ∧ ∀ p, H1 p = none → Q (.ref p) (upd H1 p (.lst xs.reverse))) ∨ (SqT K H1 a xs ∧ ∀ p, H1 p = none → Q (.ref p) (upd H1 p (.tup xs.reverse))))
theorem pe_revA {e : Expr} {te : TE} {k : Nat} {p1 p2 p3 pos : Pos} (he : PE X e te) : PE X (.Subscript e (.Slice none none (some (.UnaryOp .USub (.Constant (.int 1) k p1) p2)) p3) pos) (tRevA X.K te) := by
  refine ⟨fun pins s σ H Q I h => ?_⟩
  refine Subscript_ (thn (he.run pins s σ H _ I h) fun v s1 ⟨x, H1, I1, r1, q1⟩ => ?_)
  obtain ⟨a, xs, ex, q1⟩ := q1
  subst ex
  cases r1
  have hst : PO X (some (.UnaryOp .USub (.Constant (.int 1) k p1) p2)) (tPart (tUn (rU fun i => .int (-i)) (tC (.int 1)))) := po_some (pe_un un_neg pe_int)
  refine wpAny_Slice (thn (po_none.run pins s1 σ H1 (fun o H2 => o = none ∧ H2 = H1) I1 ⟨rfl, rfl⟩) fun vl s2 ⟨l, H2, I2, pl, el, e2⟩ => ?_)
  subst el e2
  refine thn (po_none.run pins s2 σ H2 (fun o H3 => o = none ∧ H3 = H2) I2 ⟨rfl, rfl⟩) fun vu s3 ⟨u, H3, I3, pu, eu, e3⟩ => ?_
  subst eu e3
  refine thn (hst.run pins s3 σ H3 (fun o H4 => o = some (-1) ∧ H4 = H3) I3 ⟨1, rfl, -1, rfl, rfl, rfl⟩) fun vs s4 ⟨o, H4, I4, ps, eo, e4⟩ => ?_
  subst eo e4
  have I5 : Inv X pins σ H4 { s4 with heap := s4.heap.push { cls := .type "slice", data := .fields #[vl, vu, vs] } } := I4.kept (t' := s4.toks) fun b ob q => Heap.get?_push_of_some _ q
  rcases q1 with ⟨hx, q⟩ | ⟨hx, q⟩
  · obtain ⟨its, r, ht, hz⟩ := I5.list hx
    have hlen := r.length
    show wpAny (model X.prog X.w) X.A (subscriptTail e (.Slice none none (some (.UnaryOp .USub (.Constant (.int 1) k p1) p2)) p3) (.ref a) (.ref s4.heap.objs.size)) (EP X pins σ Q) X.xe { s4 with heap := s4.heap.push { cls := .type "slice", data := .fields #[vl, vu, vs] } }
    refine tail_any (ops := [.ref a, .ref s4.heap.objs.size]) ht.isList.typeIs (PySem.slot_list_getitem.lookup) ?_ (by with_unfolding_all rfl)
    refine wpAny_getItem_list_slice ht.isList (Heap.IsSliceOf.new _ vl vu vs) pl pu ps (by decide) ?_ (by rw [List.size_toArray]; omega)
    rw [PySem.W.krv_pick]
    refine ⟨.ref _, _, I5.laid (t' := s4.toks) (o := .lst xs.reverse) (fun b ob q => Heap.get?_push_of_some _ q) (Nat.le_refl _) ?_, rfl, q _ (I5.hok.fresh (Nat.le_refl _))⟩
    exact ⟨by rw [List.length_reverse]; exact hz, _, 0, r.reverse, Heap.get?_push_size _ rfl⟩
  · obtain ⟨its, r, ht, hz⟩ := I5.tuple hx
    have hlen := r.length
    have vl0 : vl = .none := by cases pl; rfl
    have vu0 : vu = .none := by cases pu; rfl
    subst vl0
    subst vu0
    show wpAny (model X.prog X.w) X.A (subscriptTail e (.Slice none none (some (.UnaryOp .USub (.Constant (.int 1) k p1) p2)) p3) (.ref a) (.ref s4.heap.objs.size)) (EP X pins σ Q) X.xe { s4 with heap := s4.heap.push { cls := .type "slice", data := .fields #[.none, .none, vs] } }
    refine tail_any (ops := [.ref a, .ref s4.heap.objs.size]) ht.typeIs (PyProof.Rows.slot_tuple_getitem.lookup) ?_ (by with_unfolding_all rfl)
    refine getItem_tuple_back ht (Heap.IsSliceOf.new _ .none .none vs) ps ?_ (by rw [List.size_toArray]; omega)
    refine ⟨.ref _, _, I5.laid (t' := s4.toks) (o := .tup xs.reverse) (fun b ob q => Heap.get?_push_of_some _ q) (Nat.le_refl _) ?_, rfl, q _ (I5.hok.fresh (Nat.le_refl _))⟩
    exact ⟨by rw [List.length_reverse]; exact hz, _, r.reverse, IsTup.new _ _⟩
end
end TLY

/-! Tree layer, part 4: subscripts, slices, built-in calls, tests. -/
namespace TLY
open PySem PySem.Spec PyProof.Rows L2
theorem PO.imp {X : Cx} {e : Option Expr} {t t' : TO} (h : PO X e t) (i : ∀ σ H Q, t' σ H Q → t σ H Q) : PO X e t' := ⟨fun pins s σ H Q I q => h.run pins s σ H Q I (i σ H Q q)⟩
section
variable {X : Cx} {W : WX}
/-! ### subscripts -/
theorem ve_ix {a b : Expr} {ta tb : RE} {pos} (ha : BE X W a ta) (hb : BE X W b tb) (hs : PlainIx b := by exact fun _ _ => rfl) : VE X W (.Subscript a b pos) (rOp fIx ta tb) :=
  ⟨PE.imp (pe_ix ix_seq ha.run hb.run hs) fun σ H Q h => op_run opT_ix h⟩
/-- a row of rows of its own, borrowed -/
def fIxB (x y : S) (Q : S → Prop) : Prop := match x, y with
  | .l2 ls, .p (.int i) => ∃ l, atI ls i = some l ∧ Q (.l1 l)
  | x, .p (.int i) => ∃ t, x.at? i = some t ∧ Q (.p t)
  | _, _ => False
theorem Rows.get {K : PySem.W.Frag} {pa : Addr} {F H : Hp} {l : List T} : ∀ {bs : List Addr} {ls : List (List T)} {j : Nat}, Rows K pa F H bs ls → ls[j]? = some l → ∃ b vs, bs[j]? = some b ∧ b ∈ bs ∧ H b = some (.lst vs) ∧ Rps K pa F vs l
  | _, _, _, .nil, e => by simp at e
  | _, _, 0, .cons hb hr _, e => by
    simp at e
    subst e
    exact ⟨_, _, rfl, List.mem_cons_self, hb, hr⟩
  | _, _, j + 1, .cons _ _ t, e => by
    obtain ⟨b, vs, h1, h2, h3, h4⟩ := Rows.get (j := j) t (by simpa using e)
    exact ⟨b, vs, by simpa using h1, List.mem_cons_of_mem _ h2, h3, h4⟩
theorem Rows.atI {K : PySem.W.Frag} {pa : Addr} {F H : Hp} {bs : List Addr} {ls : List (List T)} {i : Int} {l : List T} (r : Rows K pa F H bs ls) (e : L2.atI ls i = some l) : ∃ b vs, L2.atI bs i = some b ∧ b ∈ bs ∧ H b = some (.lst vs) ∧ Rps K pa F vs l := by
  unfold L2.atI at e ⊢
  rw [r.length]
  cases h : ixN ls.length i with
  | none => rw [h] at e; cases e
  | some j =>
    rw [h] at e
    exact r.get e
theorem be_ix {a b : Expr} {ta tb : RE} {pos} (ha : BE X W a ta) (hb : BE X W b tb) (hs : PlainIx b := by exact fun _ _ => rfl) : BE X W (.Subscript a b pos) (rOp fIxB ta tb) :=
  ⟨PE.imp (pe_ix ix_seq ha.run hb.run hs) fun σ H Q ⟨C, F, e, O, Qt, Et, rl, q, k, x⟩ => by
    refine ⟨C, F, e, O, _, Et, rl, q, fun sx vx F1 H1 q1 g1 b1 => ?_, x⟩
    refine ⟨C, F1, e, O, _, Et, rl.grow g1, q1, fun sy vy F2 H2 q2 g2 b2 => ?_, x.grow g1⟩
    have bx := b1.grow g2
    unfold fIxB at q2
    split at q2
    · obtain ⟨l, e1, q2⟩ := q2
      obtain rfl := b2.int
      obtain ⟨L, w, n⟩ := bx
      cases w with
      | l2 hq hr =>
        rename_i a' bs
        obtain ⟨b', vs, h1, h2, h3, h4⟩ := hr.atI e1
        refine .inl ⟨_, _, _, .ref b', rfl, rfl, .inl (.inl hq), ?_, k _ _ F2 H2 q2 (g1.trans g2) ⟨[b'], .l1 h3 h4, fun c hc => ?_⟩⟩
        · unfold L2.atI at h1 ⊢
          rw [List.length_map]
          cases z : ixN bs.length _ with
          | none => rw [z] at h1; cases h1
          | some j =>
            rw [z] at h1
            show (bs.map V.ref)[j]? = _
            rw [List.getElem?_map, show bs[j]? = some b' from h1]
            rfl
        · obtain rfl : c = b' := by simpa using hc
          exact n _ (List.mem_cons_of_mem _ h2)
    · obtain ⟨t, e1, q2⟩ := q2
      exact opT_ix C.pa F2 H2 vx vy sx _ Qt Q g2.good bx b2 (by unfold fIx; exact ⟨t, e1, q2⟩) fun s v F' H' hq g w => k s v F' H' hq ((g1.trans g2).trans g) ((w.since (g1.trans g2)).borrow rl.ext.good)
    · exact q2.elim⟩
/-! ### slices -/
abbrev RO := Sl → (Option Int → Prop) → (Ex → Prop) → Prop
def liftO (K : PySem.W.Frag) (W : WX) (t : RO) : TO := fun σ H Q => ∃ C F e O Qt Et, Rel K C F H σ e O ∧ t e Qt Et ∧
  (∀ o F' H', Qt o → Grow K C.pa F H F' H' → Q o H') ∧ ExW K C.pa F H W σ Et
structure BO (X : Cx) (W : WX) (e : Option Expr) (t : RO) : Prop where
  run : PO X e (liftO X.K W t)
def rNoPart : RO := fun _ Q _ => Q none
def rPart (t : RE) : RO := fun e Q E => t e (fun s => match s with
  | .p (.int i) => Q (some i)
  | _ => False) E
theorem bo_none : BO X W none rNoPart := ⟨PO.imp po_none fun σ H Q ⟨C, F, e, O, Qt, Et, r, q, k, x⟩ => k none F H q (.refl r.ext.good)⟩
theorem bo_some {e : Expr} {t : RE} (h : BE X W e t) : BO X W (some e) (rPart t) := ⟨PO.imp (po_some h.run) fun σ H Q ⟨C, F, e, O, Qt, Et, r, q, k, x⟩ => by
  refine ⟨C, F, e, O, _, Et, r, q, fun s v F1 H1 q1 g1 b1 => ?_, x⟩
  split at q1
  · obtain rfl := b1.int
    exact ⟨_, rfl, k _ F1 H1 q1 g1⟩
  · exact q1.elim⟩
def cut {α : Type} (xs : List α) (lo hi : Option Int) : List α := (xs.drop (HT.sIx xs.length 0 lo)).take (HT.sIx xs.length xs.length hi - HT.sIx xs.length 0 lo)
def fSl (x : S) (lo hi : Option Int) (Q : S → Prop) : Prop := match x with
  | .p (.tup l) => Q (.p (.tup (cut l lo hi)))
  | x => ∃ l, x.lst? = some l ∧ Q (.l1 (cut l lo hi))
def rSl (t : RE) (tl th : RO) : RE := fun e Q E => t e (fun s => tl e (fun lo => th e (fun hi => fSl s lo hi Q) E) E) E
theorem Rps.cut {K : PySem.W.Frag} {pa : Addr} {F : Hp} {vs : List V} {l : List T} (r : Rps K pa F vs l) (lo hi : Option Int) : Rps K pa F (cutV vs lo hi) (cut l lo hi) := by
  unfold cutV TLY.cut
  rw [r.length]
  exact (r.drop _).take _
theorem cut_whole {α : Type} {xs : List α} {lo hi : Option Int} (h : HT.sIx xs.length 0 lo = 0 ∧ HT.sIx xs.length xs.length hi = xs.length) : cut xs lo hi = xs := by
  unfold cut
  rw [h.1, h.2, List.drop_zero, Nat.sub_zero, List.take_length]
theorem ve_slice {e : Expr} {lo hi : Option Expr} {t : RE} {tl th : RO} {p2 pos : Pos} (he : BE X W e t) (hl : BO X W lo tl) (hh : BO X W hi th) : VE X W (.Subscript e (.Slice lo hi none p2) pos) (rSl t tl th) :=
  ⟨PE.imp (pe_slice (sl_list.or sl_tupA) he.run hl.run hh.run) fun σ H Q ⟨C, F, e, O, Qt, Et, rl, q, k, x⟩ => by
    refine ⟨C, F, e, O, _, Et, rl, q, fun s v F1 H1 q1 g1 b1 => ?_, x⟩
    refine ⟨C, F1, e, O, _, Et, rl.grow g1, q1, fun lo F2 H2 q2 g2 => ?_, x.grow g1⟩
    refine ⟨C, F2, e, O, _, Et, (rl.grow g1).grow g2, q2, fun hi F3 H3 q3 g3 => ?_, (x.grow g1).grow g2⟩
    have bx := (b1.grow g2).grow g3
    have gg := (g1.trans g2).trans g3
    unfold fSl at q3
    split at q3
    · obtain ⟨a, vs, rfl, hx, rx⟩ := bx.tup
      refine .inr ⟨a, vs, rfl, sameSqT g3.good.sub hx, fun hw => ?_, fun _ p hp => k _ _ _ _ q3 (gg.trans (.laidF g3.good hp)) ((fresh_tup g3.good hp (rx.cut lo hi)).since gg)⟩
      rw [rx.length] at hw
      rw [cut_whole hw] at q3
      exact k _ _ F3 H3 q3 gg (.pure (.tup hx rx))
    · obtain ⟨l, e1, q3⟩ := q3
      obtain ⟨a, vs, rfl, hx, rx⟩ := bx.lst g3.good e1
      exact .inl ⟨a, vs, rfl, .inl (.inl hx), fun p hp => k _ _ _ _ q3 (gg.trans (.laid g3.good hp)) ((fresh_l1 g3.good hp (rx.cut lo hi)).since gg)⟩⟩
def fRev (x : S) (Q : S → Prop) : Prop := match x with
  | .p (.tup l) => Q (.p (.tup l.reverse))
  | x => ∃ l, x.lst? = some l ∧ Q (.l1 l.reverse)
def rUn (f : S → (S → Prop) → Prop) (t : RE) : RE := fun e Q E => t e (fun s => f s Q) E
theorem ve_rev {e : Expr} {t : RE} {k : Nat} {p1 p2 p3 pos : Pos} (he : BE X W e t) : VE X W (.Subscript e (.Slice none none (some (.UnaryOp .USub (.Constant (.int 1) k p1) p2)) p3) pos) (rUn fRev t) :=
  ⟨PE.imp (pe_revA he.run) fun σ H Q ⟨C, F, e, O, Qt, Et, rl, q, k, x⟩ => by
    refine ⟨C, F, e, O, _, Et, rl, q, fun s v F1 H1 q1 g1 b1 => ?_, x⟩
    unfold fRev at q1
    split at q1
    · obtain ⟨a, vs, rfl, hx, rx⟩ := b1.tup
      exact ⟨a, vs, rfl, .inr ⟨sameSqT g1.good.sub hx, fun p hp => k _ _ _ _ q1 (g1.trans (.laidF g1.good hp)) ((fresh_tup g1.good hp rx.reverse).since g1)⟩⟩
    · obtain ⟨l, e1, q1⟩ := q1
      obtain ⟨a, vs, rfl, hx, rx⟩ := b1.lst g1.good e1
      exact ⟨a, vs, rfl, .inl ⟨.inl (.inl hx), fun p hp => k _ _ _ _ q1 (g1.trans (.laid g1.good hp)) ((fresh_l1 g1.good hp rx.reverse).since g1)⟩⟩⟩
/-! ### unary minus, not -/
def fNeg (x : S) (Q : S → Prop) : Prop := match x with
  | .p (.int i) => Q (.p (.int (-i)))
  | _ => False
theorem ve_neg {a : Expr} {t : RE} {pos} (ha : BE X W a t) : VE X W (.UnaryOp .USub a pos) (rUn fNeg t) :=
  ⟨PE.imp (pe_un un_neg ha.run) fun σ H Q ⟨C, F, e, O, Qt, Et, rl, q, k, x⟩ => by
    refine ⟨C, F, e, O, _, Et, rl, q, fun s v F1 H1 q1 g1 b1 => ?_, x⟩
    unfold fNeg at q1
    split at q1
    · obtain rfl := b1.int
      exact ⟨_, rfl, k _ _ F1 H1 q1 g1 (.pure (.int _))⟩
    · exact q1.elim⟩
def fNot (x : S) (Q : S → Prop) : Prop := ∃ b, x.truth? = some b ∧ Q (.p (.bl (!b)))
theorem ve_not {a : Expr} {t : RE} {pos} (ha : BE X W a t) : VE X W (.UnaryOp .Not a pos) (rUn fNot t) :=
  ⟨PE.imp (L2.pe_notT ha.run) fun σ H Q ⟨C, F, e, O, Qt, Et, rl, q, k, x⟩ => by
    refine ⟨C, F, e, O, _, Et, rl, q, fun s v F1 H1 q1 g1 b1 => ?_, x⟩
    obtain ⟨b, e1, q1⟩ := q1
    exact ⟨b, b1.truth g1.good e1, k _ _ F1 H1 q1 g1 (.pure (.bl _))⟩⟩
/-! ### built-in calls -/
def CallT (K : PySem.W.Frag) (r : List V → Hp → VK → Prop) (f : List S → (S → Prop) → Prop) : Prop :=
  ∀ pa F H vs ss (Qt : S → Prop) (Q : VK), Good K pa F H → RepBs K pa F H vs ss → f ss Qt →
    (∀ s v F' H', Qt s → Grow K pa F H F' H' → Fresh K pa H F' H' v s → Q v H') → r vs H Q
def rCall (f : List S → (S → Prop) → Prop) (t : RA) : RE := fun e Q E => t e (fun ss => f ss Q) E
theorem call_run {f : List S → (S → Prop) → Prop} {r : List V → Hp → VK → Prop} {t : RA} (o : CallT X.K r f) {σ : L2.St} {H : Hp} {Q : VK} (h : liftV X.K W (rCall f t) σ H Q) : tCB r (liftA X.K W t) σ H Q := by
  obtain ⟨C, F, e, O, Qt, Et, rl, q, k, x⟩ := h
  exact ⟨C, F, e, O, _, Et, rl, q, fun ss vs F1 H1 q1 g1 b1 => o C.pa F1 H1 vs ss Qt Q g1.good b1 q1 fun s v F' H' hq g w => k s v F' H' hq (g1.trans g) (w.since g1), x⟩
theorem ve_callB {id : String} {x : Str} {p pos : Pos} {e : Expr} {es : List Expr} {t : RA} {r : List V → Hp → VK → Prop} {f : List S → (S → Prop) → Prop} (hc : CallR X (.builtin id) r) (o : CallT X.K r f) (hm : X.mg x = none) (hv : bootBuiltins x = some (.builtin id)) (ha : BA X W (e :: es) t)
    (hg : Gl X x := by rfl) (hn : x ≠ ("__name__" : Str) := by decide) (hdb : (x == ("__debug__" : Str)) = false := by decide) (hs : starEach (e :: es) X.env = (false, eval e X.env) :: starEach es X.env := by rfl) (hpl : (backTo pos (starEach es X.env)).any (·.1) = false := by rfl) :
    VE X W (.Call (.Name x p) (e :: es) [] pos) (rCall f t) := ⟨PE.imp (pe_callB hc hg hm hv ha.run hn hdb hs hpl) fun σ H Q h => call_run o h⟩
theorem ve_callTy {T0 : String} {x : Str} {p pos : Pos} {e : Expr} {es : List Expr} {t : RA} {r : List V → Hp → VK → Prop} {f : List S → (S → Prop) → Prop} (hc : CallR X (.type T0) r) (o : CallT X.K r f) (hm : X.mg x = none) (hv : bootBuiltins x = some (.type T0)) (ha : BA X W (e :: es) t)
    (hg : Gl X x := by rfl) (hn : x ≠ ("__name__" : Str) := by decide) (hdb : (x == ("__debug__" : Str)) = false := by decide) (hs : starEach (e :: es) X.env = (false, eval e X.env) :: starEach es X.env := by rfl) (hpl : (backTo pos (starEach es X.env)).any (·.1) = false := by rfl) :
    VE X W (.Call (.Name x p) (e :: es) [] pos) (rCall f t) := ⟨PE.imp (pe_callTy hc hg hm hv ha.run hn hdb hs hpl) fun σ H Q h => call_run o h⟩
theorem RepBs.one {K : PySem.W.Frag} {pa : Addr} {F H : Hp} {vs : List V} {s : S} (h : RepBs K pa F H vs [s]) : ∃ v, vs = [v] ∧ RepB K pa F H v s := by
  cases h with
  | cons h t => cases t; exact ⟨_, rfl, h⟩
theorem RepBs.two {K : PySem.W.Frag} {pa : Addr} {F H : Hp} {vs : List V} {s u : S} (h : RepBs K pa F H vs [s, u]) : ∃ v w, vs = [v, w] ∧ RepB K pa F H v s ∧ RepB K pa F H w u := by
  cases h with
  | cons h t =>
    cases t with
    | cons h2 t2 => cases t2; exact ⟨_, _, rfl, h, h2⟩
def fLen (ss : List S) (Q : S → Prop) : Prop := match ss with
  | [s] => ∃ n : Nat, s.size? = some n ∧ Q (.p (.int n))
  | _ => False
theorem callT_len : CallT X.K (fun xs H Q => ∃ x n, xs = [x] ∧ LenV X.K x H n ∧ Q (.int n) H) fLen := by
  intro pa F H vs ss Qt Q g b q k
  unfold fLen at q
  split at q
  · obtain ⟨n, e, q⟩ := q
    obtain ⟨v, rfl, bv⟩ := b.one
    exact ⟨v, n, rfl, bv.size g e, k _ _ F H q (.refl g) (.pure (.int _))⟩
  · exact q.elim
theorem ve_len {p pos : Pos} {e : Expr} {t : RE} (hm : X.mg "len" = none) (ha : BE X W e t) (hg : Gl X "len" := by rfl) (hs : starEach [e] X.env = (false, eval e X.env) :: starEach [] X.env := by rfl) : VE X W (.Call (.Name "len" p) [e] [] pos) (rCall fLen (rCons t rNil)) :=
  ve_callB call_len callT_len hm PySem.boot_len (ba_cons ha ba_nil hs) hg (hs := hs)
def fSum (ss : List S) (Q : S → Prop) : Prop := match ss with
  | [s] => ∃ ns : List Int, s.seq? = some (ns.map T.int) ∧ Q (.p (.int ns.sum))
  | _ => False
theorem callT_sum : CallT X.K (rSumA X.K) fSum := by
  intro pa F H vs ss Qt Q g b q k
  unfold fSum at q
  split at q
  · obtain ⟨ns, e, q⟩ := q
    obtain ⟨v, rfl, bv⟩ := b.one
    obtain ⟨a, ws, rfl, hq, r⟩ := bv.seq g e
    rw [r.ints] at hq
    exact ⟨a, ns, rfl, hq, k _ _ F H q (.refl g) (.pure (.int _))⟩
  · exact q.elim
/-- list(x), tuple(x) -/
def fList (ss : List S) (Q : S → Prop) : Prop := match ss with
  | [s] => ∃ l, s.seq? = some l ∧ Q (.l1 l)
  | _ => False
theorem callT_list : CallT X.K (fun xs H Q => ∃ p ys, xs = [.ref p] ∧ (SqL X.K H p ys ∨ SqT X.K H p ys) ∧ ∀ l, H l = none → Q (.ref l) (upd H l (.lst ys))) fList := by
  intro pa F H vs ss Qt Q g b q k
  unfold fList at q
  split at q
  · obtain ⟨l, e, q⟩ := q
    obtain ⟨v, rfl, bv⟩ := b.one
    obtain ⟨a, ws, rfl, hq, r⟩ := bv.seq g e
    exact ⟨a, ws, rfl, hq, fun p hp => k _ _ _ _ q (.laid g hp) (fresh_l1 g hp r)⟩
  · exact q.elim
def fTuple (ss : List S) (Q : S → Prop) : Prop := match ss with
  | [s] => ∃ l, s.seq? = some l ∧ Q (.p (.tup l))
  | _ => False
theorem callT_tuple : CallT X.K (fun xs H Q => ∃ p ys, xs = [.ref p] ∧ ((SqL X.K H p ys ∧ ∀ l, H l = none → Q (.ref l) (upd H l (.tup ys))) ∨ (SqT X.K H p ys ∧ Q (.ref p) H))) fTuple := by
  intro pa F H vs ss Qt Q g b q k
  unfold fTuple at q
  split at q
  · obtain ⟨l, e, q⟩ := q
    obtain ⟨v, rfl, bv⟩ := b.one
    unfold S.seq? at e
    split at e
    · cases e
      obtain ⟨a, ws, rfl, hq, r⟩ := bv.lst g rfl
      exact ⟨a, ws, rfl, .inl ⟨.inl (.inl hq), fun p hp => k _ _ _ _ q (.laidF g hp) (fresh_tup g hp r)⟩⟩
    · cases e
      obtain ⟨a, ws, rfl, hq, r⟩ := bv.tup
      exact ⟨a, ws, rfl, .inr ⟨sameSqT g.sub hq, k _ _ F H q (.refl g) (.pure (.tup hq r))⟩⟩
    · cases e
      obtain ⟨a, ws, rfl, hq, r⟩ := bv.lst g rfl
      exact ⟨a, ws, rfl, .inl ⟨.inl (.inl hq), fun p hp => k _ _ _ _ q (.laidF g hp) (fresh_tup g hp r)⟩⟩
    · cases e
  · exact q.elim
/-- all(x), any(x) -/
def fAll (ss : List S) (Q : S → Prop) : Prop := match ss with
  | [s] => ∃ bs : List Bool, s.lst? = some (bs.map T.bl) ∧ Q (.p (.bl (bs.all id)))
  | _ => False
def fAny (ss : List S) (Q : S → Prop) : Prop := match ss with
  | [s] => ∃ bs : List Bool, s.lst? = some (bs.map T.bl) ∧ Q (.p (.bl (bs.any id)))
  | _ => False
theorem callT_all : CallT X.K (rAll X.K) fAll := by
  intro pa F H vs ss Qt Q g b q k
  unfold fAll at q
  split at q
  · obtain ⟨ns, e, q⟩ := q
    obtain ⟨v, rfl, bv⟩ := b.one
    obtain ⟨a, ws, rfl, hq, r⟩ := bv.lst g e
    rw [r.bls] at hq
    exact ⟨a, ns, rfl, .inl (.inl hq), k _ _ F H q (.refl g) (.pure (.bl _))⟩
  · exact q.elim
theorem callT_any : CallT X.K (rAny X.K) fAny := by
  intro pa F H vs ss Qt Q g b q k
  unfold fAny at q
  split at q
  · obtain ⟨ns, e, q⟩ := q
    obtain ⟨v, rfl, bv⟩ := b.one
    obtain ⟨a, ws, rfl, hq, r⟩ := bv.lst g e
    rw [r.bls] at hq
    exact ⟨a, ns, rfl, .inl (.inl hq), k _ _ F H q (.refl g) (.pure (.bl _))⟩
  · exact q.elim
/-- int(n) of an int -/
def fInt1 (ss : List S) (Q : S → Prop) : Prop := match ss with
  | [.p (.int i)] => Q (.p (.int i))
  | _ => False
theorem callT_int : CallT X.K (fun xs H Q => (∃ i, xs = [.int i] ∧ Q (.int i) H) ∨ ∃ k, xs = [.bl k] ∧ Q (.int (if k then 1 else 0)) H) fInt1 := by
  intro pa F H vs ss Qt Q g b q k
  unfold fInt1 at q
  split at q
  · obtain ⟨v, rfl, bv⟩ := b.one
    obtain rfl := bv.int
    exact .inl ⟨_, rfl, k _ _ F H q (.refl g) (.pure (.int _))⟩
  · exact q.elim
def fInts2 (f : Int → Int → Int) (ss : List S) (Q : S → Prop) : Prop := match ss with
  | [.p (.int i), .p (.int j)] => Q (.p (.int (f i j)))
  | _ => False
theorem callT_ints2 {f : Int → Int → Int} : CallT X.K (fun xs H Q => ∃ i j, xs = [.int i, .int j] ∧ Q (.int (f i j)) H) (fInts2 f) := by
  intro pa F H vs ss Qt Q g b q k
  unfold fInts2 at q
  split at q
  · obtain ⟨v, w, rfl, bv, bw⟩ := b.two
    obtain rfl := bv.int
    obtain rfl := bw.int
    exact ⟨_, _, rfl, k _ _ F H q (.refl g) (.pure (.int _))⟩
  · exact q.elim
def fInts1 (f : Int → Int) (ss : List S) (Q : S → Prop) : Prop := match ss with
  | [.p (.int i)] => Q (.p (.int (f i)))
  | _ => False
theorem callT_ints1 {f : Int → Int} : CallT X.K (fun xs H Q => ∃ i, xs = [.int i] ∧ Q (.int (f i)) H) (fInts1 f) := by
  intro pa F H vs ss Qt Q g b q k
  unfold fInts1 at q
  split at q
  · obtain ⟨v, rfl, bv⟩ := b.one
    obtain rfl := bv.int
    exact ⟨_, rfl, k _ _ F H q (.refl g) (.pure (.int _))⟩
  · exact q.elim
/-- sorted(list of ints) -/
def fSorted (ss : List S) (Q : S → Prop) : Prop := match ss with
  | [s] => ∃ ns : List Int, s.lst? = some (ns.map T.int) ∧ ∀ ns' : List Int, ns'.Perm ns → ns'.Pairwise (· ≤ ·) → Q (.l1 (ns'.map T.int))
  | _ => False
theorem callT_sorted : CallT X.K (rSortedI X.K) fSorted := by
  intro pa F H vs ss Qt Q g b q k
  unfold fSorted at q
  split at q
  · obtain ⟨ns, e, q⟩ := q
    obtain ⟨v, rfl, bv⟩ := b.one
    obtain ⟨a, ws, rfl, hq, r⟩ := bv.lst g e
    rw [r.ints] at hq
    exact ⟨a, ns, rfl, .inl (.inl hq), fun ns' p h1 h2 hp => k _ _ _ _ (q ns' h1 h2) (.laid g hp) (fresh_l1 g hp Rps.ofInts)⟩
  · exact q.elim
end
end TLY

/-! Tree layer, part 5: tests, conditional values, isinstance, calls of defs, what is walked, comprehensions. -/
namespace TLY
open PySem PySem.Spec PyProof.Rows L2
theorem PI.imp {X : Cx} {tg iter : Expr} {t t' : TI} (h : PI X tg iter t) (i : ∀ σ H Q, t' σ H Q → t σ H Q) : PI X tg iter t' := ⟨fun pins s σ H Q I q => h.run pins s σ H Q I (i σ H Q q)⟩
section
variable {X : Cx} {W : WX}
/-! ### tests -/
def asB (Q : Bool → Prop) : S → Prop
  | .p (.bl b) => Q b
  | _ => False
def tTru (t : RE) : RT := fun e Q E => t e (fun s => ∃ b, s.truth? = some b ∧ Q b) E
def tOpT (f : S → S → (S → Prop) → Prop) (ta tb : RE) : RT := fun e Q E => ta e (fun x => tb e (fun y => f x y (asB Q)) E) E
def tNotR (t : RT) : RT := fun e Q E => t e (fun b => Q (!b)) E
def tAndR (t u : RT) : RT := fun e Q E => t e (fun b => if b = true then u e Q E else Q false) E
def tOrR (t u : RT) : RT := fun e Q E => t e (fun b => if b = true then Q true else u e Q E) E
theorem vt_truth {e : Expr} {t : RE} (h : BE X W e t) (he : ∀ whole, isTrue e X.env whole = (do let v ← whole; standAt e.pos; holding [v] (truthy v)) := by intro _; rfl) : VT X W e (tTru t) :=
  ⟨PT.imp (pt_truth h.run he) fun σ H Q ⟨C, F, e, O, Qt, Et, rl, q, k, x⟩ =>
    ⟨C, F, e, O, _, Et, rl, q, fun s v F1 H1 ⟨b, e1, q1⟩ g1 b1 => ⟨b, b1.truth g1.good e1, k b F1 H1 q1 g1⟩, x⟩⟩
theorem vt_cmp {op : CmpOp} {a b : Expr} {r : V → V → Hp → VK → Prop} {f : S → S → (S → Prop) → Prop} {ta tb : RE} {pos} (ho : OpR X (compareOp op) r) (o : OpT X.K r f) (ha : BE X W a ta) (hb : BE X W b tb) (hm : behindInMarks op b = false := by first | rfl | exact nomark _) : VT X W (.Compare a [op] [b] pos) (tOpT f ta tb) :=
  ⟨PT.imp (pt_cmpR ho ha.run hb.run hm) fun σ H Q ⟨C, F, e, O, Qt, Et, rl, q, k, x⟩ =>
    op_run (W := W) o ⟨C, F, e, O, _, Et, rl, q, fun s v F1 H1 q1 g1 b1 => by
      unfold asB at q1
      split at q1
      · obtain rfl := (b1.borrow rl.ext.good).bl
        exact ⟨_, rfl, k _ F1 H1 q1 g1⟩
      · exact q1.elim, x⟩⟩
/-- a < b < c, the middle asked once -/
def tChT (f f' : S → S → (S → Prop) → Prop) (ta tb tc : RE) : RT := fun e Q E => ta e (fun x => tb e (fun y => f x y (asB fun k => if k = true then tc e (fun z => f' y z (asB Q)) E else Q false)) E) E
def rChain (f f' : S → S → (S → Prop) → Prop) (ta tb tc : RE) : RE := fun e Q E => ta e (fun x => tb e (fun y => f x y (asB fun k => if k = true then tc e (fun z => f' y z Q) E else Q (.p (.bl false)))) E) E
theorem chain_run {r r' : V → V → Hp → VK → Prop} {f f' : S → S → (S → Prop) → Prop} {ta tb tc : RE} (o : OpT X.K r f) (o' : OpT X.K r' f') {σ : L2.St} {H : Hp} {Q : VK} (h : liftV X.K W (rChain f f' ta tb tc) σ H Q) : tChain r r' (liftB X.K W ta) (liftB X.K W tb) (liftB X.K W tc) σ H Q := by
  obtain ⟨C, F, e, O, Qt, Et, rl, q, k, x⟩ := h
  refine ⟨C, F, e, O, _, Et, rl, q, fun sx vx F1 H1 q1 g1 b1 => ?_, x⟩
  refine ⟨C, F1, e, O, _, Et, rl.grow g1, q1, fun sy vy F2 H2 q2 g2 b2 => ?_, x.grow g1⟩
  refine o C.pa F2 H2 vx vy sx sy _ _ g2.good (b1.grow g2) b2 q2 fun s v F3 H3 hq g3 w => ?_
  unfold asB at hq
  split at hq
  · obtain rfl := (w.borrow g2.good).bl
    rename_i kb
    have gg := (g1.trans g2).trans g3
    refine ⟨kb, rfl, ?_⟩
    cases kb with
    | true =>
      rw [if_pos rfl] at hq ⊢
      refine ⟨C, F3, e, O, _, Et, rl.grow gg, hq, fun sz vz F4 H4 q4 g4 b4 => ?_, x.grow gg⟩
      exact o' C.pa F4 H4 vy vz sy sz Qt Q g4.good ((b2.grow g3).grow g4) b4 q4 fun s v F5 H5 hq5 g5 w5 => k s v F5 H5 hq5 ((gg.trans g4).trans g5) (w5.since (gg.trans g4))
    | false =>
      rw [if_neg Bool.false_ne_true] at hq ⊢
      exact k _ _ F3 H3 hq gg (.pure (.bl _))
  · exact hq.elim
theorem ve_chain {op op' : CmpOp} {a b c : Expr} {r r' : V → V → Hp → VK → Prop} {f f' : S → S → (S → Prop) → Prop} {ta tb tc : RE} {pos} (ho : OpR X (compareOp op) r) (o : OpT X.K r f) (ho' : OpR X (compareOp op') r') (o' : OpT X.K r' f') (ha : BE X W a ta) (hb : BE X W b tb) (hc : BE X W c tc) (hm : lastMarks [op, op'] [b, c] = false := by first | rfl | exact nomark _) : VE X W (.Compare a [op, op'] [b, c] pos) (rChain f f' ta tb tc) :=
  ⟨PE.imp (pe_chain ho ho' ha.run hb.run hc.run (hm := hm)) fun σ H Q h => chain_run o o' h⟩
theorem vt_chain {op op' : CmpOp} {a b c : Expr} {r r' : V → V → Hp → VK → Prop} {f f' : S → S → (S → Prop) → Prop} {ta tb tc : RE} {pos} (ho : OpR X (compareOp op) r) (o : OpT X.K r f) (ho' : OpR X (compareOp op') r') (o' : OpT X.K r' f') (ha : BE X W a ta) (hb : BE X W b tb) (hc : BE X W c tc) (hm : lastMarks [op, op'] [b, c] = false := by first | rfl | exact nomark _) : VT X W (.Compare a [op, op'] [b, c] pos) (tChT f f' ta tb tc) :=
  ⟨PT.imp (pt_chain ho ho' ha.run hb.run hc.run (hm := hm)) fun σ H Q ⟨C, F, e, O, Qt, Et, rl, q, k, x⟩ =>
    chain_run (W := W) o o' ⟨C, F, e, O, asB Qt, Et, rl, q, fun s v F1 H1 q1 g1 b1 => by
      unfold asB at q1
      split at q1
      · obtain rfl := (b1.borrow rl.ext.good).bl
        exact ⟨_, rfl, k _ F1 H1 q1 g1⟩
      · exact q1.elim, x⟩⟩
theorem vt_not {a : Expr} {t : RT} {pos} (ha : VT X W a t) : VT X W (.UnaryOp .Not a pos) (tNotR t) :=
  ⟨PT.imp (pt_not ha.run) fun σ H Q ⟨C, F, e, O, Qt, Et, rl, q, k, x⟩ => ⟨C, F, e, O, _, Et, rl, q, fun b F1 H1 q1 g1 => k _ F1 H1 q1 g1, x⟩⟩
theorem VW.vt {e : Expr} {t : RT} (h : VW X W e t) : VT X W e t := ⟨PW.pt h.run⟩
theorem vw_and1 {a : Expr} {t : RT} {pos} (ha : VT X W a t) : VW X W (.BoolOp .And [a] pos) t := ⟨pw_and1 ha.run⟩
theorem vw_or1 {a : Expr} {t : RT} {pos} (ha : VT X W a t) : VW X W (.BoolOp .Or [a] pos) t := ⟨pw_or1 ha.run⟩
theorem vw_and {a b : Expr} {rest : List Expr} {t u : RT} {pos} (ha : VT X W a t) (hb : VW X W (.BoolOp .And (b :: rest) pos) u) : VW X W (.BoolOp .And (a :: b :: rest) pos) (tAndR t u) :=
  ⟨PW.imp (pw_and ha.run hb.run) fun σ H Q ⟨C, F, e, O, Qt, Et, rl, q, k, x⟩ => ⟨C, F, e, O, _, Et, rl, q, fun b F1 H1 q1 g1 => by
    cases b with
    | true =>
      rw [if_pos rfl] at q1 ⊢
      exact ⟨C, F1, e, O, Qt, Et, rl.grow g1, q1, fun b2 F2 H2 q2 g2 => k b2 F2 H2 q2 (g1.trans g2), x.grow g1⟩
    | false =>
      rw [if_neg Bool.false_ne_true] at q1 ⊢
      exact k _ F1 H1 q1 g1, x⟩⟩
theorem vw_or {a b : Expr} {rest : List Expr} {t u : RT} {pos} (ha : VT X W a t) (hb : VW X W (.BoolOp .Or (b :: rest) pos) u) : VW X W (.BoolOp .Or (a :: b :: rest) pos) (tOrR t u) :=
  ⟨PW.imp (pw_or ha.run hb.run) fun σ H Q ⟨C, F, e, O, Qt, Et, rl, q, k, x⟩ => ⟨C, F, e, O, _, Et, rl, q, fun b F1 H1 q1 g1 => by
    cases b with
    | true =>
      rw [if_pos rfl] at q1 ⊢
      exact k _ F1 H1 q1 g1
    | false =>
      rw [if_neg Bool.false_ne_true] at q1 ⊢
      exact ⟨C, F1, e, O, Qt, Et, rl.grow g1, q1, fun b2 F2 H2 q2 g2 => k b2 F2 H2 q2 (g1.trans g2), x.grow g1⟩, x⟩⟩
/-! ### values by tests: and, or, if -/
def rIf (t : RT) (ta tb : RE) : RE := fun e Q E => t e (fun b => if b = true then ta e Q E else tb e Q E) E
theorem ve_ifExp {c a b : Expr} {t : RT} {ta tb : RE} {pos} (hc : VT X W c t) (ha : VE X W a ta) (hb : VE X W b tb) : VE X W (.IfExp c a b pos) (rIf t ta tb) :=
  ⟨PE.imp (pe_ifExp hc.run ha.run hb.run) fun σ H Q ⟨C, F, e, O, Qt, Et, rl, q, k, x⟩ => ⟨C, F, e, O, _, Et, rl, q, fun b F1 H1 q1 g1 => by
    cases b with
    | true =>
      rw [if_pos rfl] at q1 ⊢
      exact ⟨C, F1, e, O, Qt, Et, rl.grow g1, q1, fun s v F2 H2 q2 g2 b2 => k s v F2 H2 q2 (g1.trans g2) (b2.since g1), x.grow g1⟩
    | false =>
      rw [if_neg Bool.false_ne_true] at q1 ⊢
      exact ⟨C, F1, e, O, Qt, Et, rl.grow g1, q1, fun s v F2 H2 q2 g2 b2 => k s v F2 H2 q2 (g1.trans g2) (b2.since g1), x.grow g1⟩, x⟩⟩
def rAnd (ta tb : RE) : RE := fun e Q E => ta e (fun s => ∃ b, s.truth? = some b ∧ if b = true then tb e Q E else Q s) E
def rOr (ta tb : RE) : RE := fun e Q E => ta e (fun s => ∃ b, s.truth? = some b ∧ if b = true then Q s else tb e Q E) E
theorem ve_one {a : Expr} {t : RE} {op pos} (ha : VE X W a t) : VE X W (.BoolOp op [a] pos) t := ⟨pe_one ha.run⟩
theorem ve_and {a b : Expr} {rest : List Expr} {ta tb : RE} {pos} (ha : VE X W a ta) (hb : VE X W (.BoolOp .And (b :: rest) pos) tb) : VE X W (.BoolOp .And (a :: b :: rest) pos) (rAnd ta tb) :=
  ⟨PE.imp (L2.pe_andT ha.run hb.run) fun σ H Q ⟨C, F, e, O, Qt, Et, rl, q, k, x⟩ => ⟨C, F, e, O, _, Et, rl, q, fun s v F1 H1 ⟨b, e1, q1⟩ g1 b1 => ⟨b, (b1.borrow rl.ext.good).truth g1.good e1, by
    cases b with
    | true =>
      rw [if_pos rfl] at q1 ⊢
      exact ⟨C, F1, e, O, Qt, Et, rl.grow g1, q1, fun s v F2 H2 q2 g2 b2 => k s v F2 H2 q2 (g1.trans g2) (b2.since g1), x.grow g1⟩
    | false =>
      rw [if_neg Bool.false_ne_true] at q1 ⊢
      exact k s v F1 H1 q1 g1 b1⟩, x⟩⟩
theorem ve_or {a b : Expr} {rest : List Expr} {ta tb : RE} {pos} (ha : VE X W a ta) (hb : VE X W (.BoolOp .Or (b :: rest) pos) tb) : VE X W (.BoolOp .Or (a :: b :: rest) pos) (rOr ta tb) :=
  ⟨PE.imp (L2.pe_orT ha.run hb.run) fun σ H Q ⟨C, F, e, O, Qt, Et, rl, q, k, x⟩ => ⟨C, F, e, O, _, Et, rl, q, fun s v F1 H1 ⟨b, e1, q1⟩ g1 b1 => ⟨b, (b1.borrow rl.ext.good).truth g1.good e1, by
    cases b with
    | true =>
      rw [if_pos rfl] at q1 ⊢
      exact k s v F1 H1 q1 g1 b1
    | false =>
      rw [if_neg Bool.false_ne_true] at q1 ⊢
      exact ⟨C, F1, e, O, Qt, Et, rl.grow g1, q1, fun s v F2 H2 q2 g2 b2 => k s v F2 H2 q2 (g1.trans g2) (b2.since g1), x.grow g1⟩⟩, x⟩⟩
/-! ### isinstance of built-in classes -/
def subT (n m : String) : Bool := n == m || (n == "bool" && m == "int")
def S.isi (s : S) (ms : List String) : Bool := match s.cls? with
  | some n => ms.any (subT n)
  | none => false
theorem kit_base {K : PySem.W.Frag} {s : S} {n m : String} (h : s.cls? = some n) (hm : m ∈ ["int", "bool", "str", "tuple", "list", "dict"]) : PySem.W.kitOne K (.type n) (.type m) = some (subT n m) := by
  have hn : n ∈ ["NoneType", "int", "bool", "str", "tuple", "list", "dict"] := by
    unfold S.cls? T.cls? at h
    split at h
    · split at h <;> cases h <;> simp
    · cases h; simp
  simp only [List.mem_cons, List.not_mem_nil, or_false] at hn hm
  rcases hn with rfl | rfl | rfl | rfl | rfl | rfl | rfl <;> rcases hm with rfl | rfl | rfl | rfl | rfl | rfl <;> rfl
theorem kit_any {K : PySem.W.Frag} {s : S} {n : String} (h : s.cls? = some n) : ∀ {ms : List String}, (∀ m ∈ ms, m ∈ ["int", "bool", "str", "tuple", "list", "dict"]) → PySem.W.kitAny K (.type n) (ms.map Value.type) = some (ms.any (subT n))
  | [], _ => rfl
  | m :: ms, hm => by
    show (match PySem.W.kitOne K (.type n) (.type m) with
      | some true => some true
      | some false => PySem.W.kitAny K (.type n) (ms.map Value.type)
      | none => none) = _
    rw [kit_base h (hm m List.mem_cons_self), kit_any h fun m' h' => hm m' (List.mem_cons_of_mem _ h'), List.any_cons]
    cases subT n m <;> rfl
def rIsI (ms : List String) (t : RE) : RE := fun e Q E => t e (fun s => s.cls?.isSome = true ∧ Q (.p (.bl (s.isi ms)))) E
theorem isi_of {s : S} {n : String} {ms : List String} (h : s.cls? = some n) : s.isi ms = ms.any (subT n) := by
  unfold S.isi
  rw [h]
theorem ve_isi1 {m : String} {a c : Expr} {t : RE} {p pos : Pos} (ha : BE X W a t) (hc : PE X c (tC (.ty m))) (hm : X.mg "isinstance" = none) (hmm : m ∈ ["int", "bool", "str", "tuple", "list", "dict"] := by simp) (hg : Gl X "isinstance" := by rfl)
    (h1 : starEach [a, c] X.env = (false, eval a X.env) :: starEach [c] X.env := by rfl) (h2 : starEach [c] X.env = (false, eval c X.env) :: starEach [] X.env := by rfl) (h3 : (backTo pos (starEach [c] X.env)).any (·.1) = false := by rfl) : VE X W (.Call (.Name "isinstance" p) [a, c] [] pos) (rIsI [m] t) :=
  ⟨PE.imp (pe_callB call_isi hg hm (by decide +kernel) (pa_cons ha.run (pa_cons hc pa_nil h2) h1) (by decide) (by decide) h1 h3) fun σ H Q ⟨C, F, e, O, Qt, Et, rl, q, k, x⟩ => by
    refine ⟨C, F, e, O, _, Et, rl, q, fun s v F1 H1 ⟨hs, q1⟩ g1 b1 => ?_, x⟩
    obtain ⟨n, hn⟩ := Option.isSome_iff_exists.mp hs
    refine ⟨v, .ty m, .type n, .type m, subT n m, rfl, .ty m, b1.cls g1.good hn, kit_base hn hmm, ?_⟩
    rw [isi_of hn] at q1
    exact k _ _ F1 H1 (by simpa using q1) g1 (.pure (.bl _))⟩
theorem ve_isi2 {m m' : String} {a c c' : Expr} {t : RE} {p pos tpos : Pos} {kk} (ha : BE X W a t) (hc : PE X c (tC (.ty m))) (hc' : PE X c' (tC (.ty m'))) (hm : X.mg "isinstance" = none) (hmm : m ∈ ["int", "bool", "str", "tuple", "list", "dict"] := by simp) (hmm' : m' ∈ ["int", "bool", "str", "tuple", "list", "dict"] := by simp) (hg : Gl X "isinstance" := by rfl)
    (h1 : starEach [a, .Tuple [c, c'] kk tpos] X.env = (false, eval a X.env) :: starEach [.Tuple [c, c'] kk tpos] X.env := by rfl) (h2 : starEach [.Tuple [c, c'] kk tpos] X.env = (false, eval (.Tuple [c, c'] kk tpos) X.env) :: starEach [] X.env := by rfl) (h3 : (backTo pos (starEach [.Tuple [c, c'] kk tpos] X.env)).any (·.1) = false := by rfl)
    (h4 : starEach [c, c'] X.env = (false, eval c X.env) :: starEach [c'] X.env := by rfl) (h5 : starEach [c'] X.env = (false, eval c' X.env) :: starEach [] X.env := by rfl) : VE X W (.Call (.Name "isinstance" p) [a, .Tuple [c, c'] kk tpos] [] pos) (rIsI [m, m'] t) :=
  ⟨PE.imp (pe_callB call_isiT hg hm (by decide +kernel) (pa_cons ha.run (pa_cons (pe_tup (pa_cons hc (pa_cons hc' pa_nil h5) h4)) pa_nil h2) h1) (by decide) (by decide) h1 h3) fun σ H Q ⟨C, F, e, O, Qt, Et, rl, q, k, x⟩ => by
    refine ⟨C, F, e, O, _, Et, rl, q, fun s v F1 H1 ⟨hs, q1⟩ g1 b1 => ?_, x⟩
    obtain ⟨n, hn⟩ := Option.isSome_iff_exists.mp hs
    refine ⟨(by show 2 ≤ sizeLine; decide), fun p hp => ?_⟩
    have g2 := Grow.laidF g1.good (o := .tup [.ty m, .ty m']) hp
    refine ⟨v, p, [.ty m, .ty m'], .type n, [.type m, .type m'], [m, m'].any (subT n), rfl, upd_same, .cons (.ty m) (.cons (.ty m') .nil), (b1.grow g2).cls g2.good hn, ?_, ?_⟩
    · exact kit_any hn (ms := [m, m']) fun z hz => by
        rcases List.mem_cons.mp hz with rfl | hz
        · exact hmm
        · obtain rfl : z = m' := by simpa using hz
          exact hmm'
    · rw [isi_of hn] at q1
      exact k _ _ _ _ q1 (g1.trans g2) (.pure (.bl _))⟩
/-! ### calls of defs -/
abbrev FSpec := List T → (S → Prop) → (Ex → Prop) → Prop
def spOf (K : PySem.W.Frag) (sp : FSpec) : Sp := fun vs H Q E => ∃ pa F args Qt Et, Good K pa F H ∧ Rps K pa F vs args ∧ sp args Qt Et ∧
  (∀ r v F' H', Qt r → Grow K pa F H F' H' → Fresh K pa H F' H' v r → Q v H') ∧ (∀ x cls d F' H', Et x → Grow K pa F H F' H' → ExR K pa F' H' x cls d → E cls d H')
def rCallU (sp : FSpec) (t : RF) : RE := fun e Q E => t e (fun args => sp args Q E) E
theorem ve_callU {k : Nat} {f : Addr} {fd : FuncData} {ps : List Str} {sp : FSpec} {x : Str} {p pos : Pos} {e : Expr} {es : List Expr} {t : RF} (tk : Takes X W) (G : FnOk X.prog X.w X.K X.mg X.base (L2.CX X.prog X.w) k f fd ps (spOf X.K sp)) (hr : Room k X.A) (hm : X.mg x = some (.ref f)) (hk : PySem.W.keepIn X.K (.ref f) = true) (hb : Binds X.K fd ps [])
    (ha : FA X W (e :: es) t) (hg : Gl X x := by rfl) (hdb : (x == ("__debug__" : Str)) = false := by decide) (he : starEach (e :: es) X.env = (false, eval e X.env) :: starEach es X.env := by rfl) (hpl : (backTo pos (starEach es X.env)).any (·.1) = false := by rfl) :
    VE X W (.Call (.Name x p) (e :: es) [] pos) (rCallU sp t) :=
  ⟨PE.imp (pe_callSD (dvs := []) (E := WE W) G hr hg hm hk hb .nil (fun σ => passAt tk σ) ha.run hdb he hpl) fun σ H Q ⟨C, F, e, O, Qt, Et, rl, q, kk, x⟩ => by
    refine ⟨C, F, e, O, _, Et, rl, q, fun args vs F1 H1 q1 g1 r1 => ?_, x⟩
    show spOf X.K sp (vs ++ []) H1 Q (WE W σ)
    rw [List.append_nil]
    exact ⟨C.pa, F1, args, Qt, Et, g1.good, r1, q1, fun r v F2 H2 q2 g2 w2 => kk r v F2 H2 q2 (g1.trans g2) (w2.since g1), fun y cls d F2 H2 q2 g2 ex => x y cls d F2 H2 q2 (g1.trans g2) ex⟩⟩
theorem spOf_imp {K : PySem.W.Frag} {sp sp' : FSpec} (h : ∀ args Q E, sp' args Q E → sp args Q E) : ∀ vs H Q E, spOf K sp' vs H Q E → spOf K sp vs H Q E := fun vs H Q E ⟨pa, F, args, Qt, Et, g, r, s, k, x⟩ => ⟨pa, F, args, Qt, Et, g, r, h _ _ _ s, k, x⟩
/-! ### what is walked -/
/-- the walk J gives the trees l, as long as F is told -/
structure WalkT (K : PySem.W.Frag) (pa : Addr) (F : Hp) (J : It) (l : List T) : Prop where
  goes : ∀ i F2 H2, i < l.length → Same F F2 → Good K pa F2 H2 → J.go i H2
  stops : ∀ F2 H2, Same F F2 → Good K pa F2 H2 → J.stop l.length H2
  yields : ∀ i F2 H2 x H3, i < l.length → Same F F2 → Good K pa F2 H2 → J.yld i H2 x H3 → ∃ t F3, l[i]? = some t ∧ Grow K pa F2 H2 F3 H3 ∧ Rp K pa F3 x t
abbrev RI := Sl → (List T → Prop) → (Ex → Prop) → Prop
def liftI (K : PySem.W.Frag) (W : WX) (t : RI) : TI := fun σ H R => ∃ C F e O Qt Et, Rel K C F H σ e O ∧ t e Qt Et ∧
  (∀ l J F' H', Qt l → Grow K C.pa F H F' H' → WalkT K C.pa F' J l → R J H') ∧ ExW K C.pa F H W σ Et
structure VI (X : Cx) (W : WX) (tg iter : Expr) (t : RI) : Prop where
  run : PI X tg iter (liftI X.K W t)
theorem PI.or {tg iter : Expr} {t t' : TI} (h : PI X tg iter t) (h' : PI X tg iter t') : PI X tg iter (fun σ H R => t σ H R ∨ t' σ H R) := ⟨fun pins s σ H R I q => by
  rcases q with q | q
  · exact h.run pins s σ H R I q
  · exact h'.run pins s σ H R I q⟩
theorem WalkT.list {K : PySem.W.Frag} {pa : Addr} {F : Hp} {a : Addr} {vs : List V} {l : List T} (h : F a = some (.lst vs)) (r : Rps K pa F vs l) : WalkT K pa F (Itl K a) l where
  goes := fun i F2 H2 hi s g => by
    obtain ⟨v, e, _⟩ := r.get (List.getElem?_eq_getElem hi)
    exact ⟨vs, v, .inl (.inl (g.sub _ _ (s _ _ h))), e⟩
  stops := fun F2 H2 s g => ⟨vs, .inl (.inl (g.sub _ _ (s _ _ h))), by rw [r.length]; exact Nat.le_refl _⟩
  yields := fun i F2 H2 x H3 hi s g y => by
    obtain ⟨rfl, y⟩ := y
    obtain ⟨t, e, w⟩ := r.getV (y vs (.inl (.inl (g.sub _ _ (s _ _ h)))))
    exact ⟨t, F2, e, .refl g, w.mono s⟩
theorem WalkT.tup {K : PySem.W.Frag} {pa : Addr} {F : Hp} {a : Addr} {vs : List V} {l : List T} (h : SqT K F a vs) (r : Rps K pa F vs l) : WalkT K pa F (Itt K a) l where
  goes := fun i F2 H2 hi s g => by
    obtain ⟨v, e, _⟩ := r.get (List.getElem?_eq_getElem hi)
    exact ⟨vs, v, sameSqT g.sub (sameSqT s h), e⟩
  stops := fun F2 H2 s g => ⟨vs, sameSqT g.sub (sameSqT s h), by rw [r.length]; exact Nat.le_refl _⟩
  yields := fun i F2 H2 x H3 hi s g y => by
    obtain ⟨rfl, y⟩ := y
    obtain ⟨t, e, w⟩ := r.getV (y vs (sameSqT g.sub (sameSqT s h)))
    exact ⟨t, F2, e, .refl g, w.mono s⟩
def T.items? : T → Option (List T)
  | .lst l => some l
  | .tup l => some l
  | _ => none
def iLT (K : PySem.W.Frag) (tl : TE) : TI := fun σ H R => tl σ H fun x H1 => ∃ a, x = .ref a ∧ (((∃ xs, SqL K H1 a xs) ∧ R (Itl K a) H1) ∨ ((∃ xs, SqT K H1 a xs) ∧ R (Itt K a) H1))
theorem pi_lt {tg l : Expr} {tl : TE} (hl : PE X l tl) : PI X tg l (iLT X.K tl) := by
  refine ⟨fun pins s σ H R I h => ?_⟩
  refine thn (hl.run pins s σ H _ I h) fun v s1 ⟨x, H1, I1, r1, q1⟩ => ?_
  obtain ⟨a, e, q1⟩ := q1
  subst e
  cases r1
  have fr : ∀ b, b ∈ [s1.heap.objs.size] → FpOk X pins H1 b := fun b hb => by
    have e : b = s1.heap.objs.size := by simpa using hb
    subst e
    exact I1.fpOk (Nat.le_refl _) (I1.hok.fresh (Nat.le_refl _))
  rcases q1 with ⟨⟨xs, hq⟩, q⟩ | ⟨⟨xs, hq⟩, q⟩
  · obtain ⟨its, rv, p, hz⟩ := I1.list hq
    refine wpAny_pyIter_list p.isList ?_
    exact ⟨s1.heap.objs.size, [s1.heap.objs.size], _, _, H1, rfl, I1.kept (t' := s1.toks) fun b o e => Heap.get?_push_of_some _ e, turn_list a _, ⟨_, Heap.get?_push_size _ rfl, rfl, rfl⟩, fr, q⟩
  · obtain ⟨its, rv, p, hz⟩ := I1.tuple hq
    refine wpAny_pyIter_tuple (show s1.heap.IsTuple a its.toArray from p) ?_
    exact ⟨s1.heap.objs.size, [s1.heap.objs.size], _, _, H1, rfl, I1.kept (t' := s1.toks) fun b o e => Heap.get?_push_of_some _ e, turn_tuple a _, ⟨_, Heap.get?_push_size _ rfl, rfl, rfl⟩, fr, q⟩
def iSeq (t : RE) : RI := fun e Q E => t e (fun s => ∃ l, s.fz.items? = some l ∧ Q l) E
theorem Rp.items {K : PySem.W.Frag} {pa : Addr} {F : Hp} {v : V} {t : T} {l : List T} (w : Rp K pa F v t) (h : t.items? = some l) : ∃ a vs, v = .ref a ∧ (F a = some (.lst vs) ∨ SqT K F a vs) ∧ Rps K pa F vs l := by
  unfold T.items? at h
  split at h
  · cases h
    cases w with
    | lst q r => exact ⟨_, _, rfl, .inl q, r⟩
  · cases h
    cases w with
    | tup q r => exact ⟨_, _, rfl, .inr q, r⟩
  · cases h
theorem vi_seq {tg iter : Expr} {t : RE} (h : VE X W iter t) : VI X W tg iter (iSeq t) :=
  ⟨PI.imp (pi_lt h.run) fun σ H Q ⟨C, F, e, O, Qt, Et, rl, q, k, x⟩ => by
    refine ⟨C, F, e, O, _, Et, rl, q, fun s v F1 H1 ⟨l, e1, q1⟩ g1 b1 => ?_, x⟩
    obtain ⟨F2, g2, _, w⟩ := b1.told rl.ext.good g1
    obtain ⟨a, vs, rfl, hq, r⟩ := w.items e1
    rcases hq with hq | hq
    · exact ⟨a, rfl, .inl ⟨⟨vs, .inl (.inl (g2.good.sub _ _ hq))⟩, k l _ F2 H1 q1 g2 (.list hq r)⟩⟩
    · exact ⟨a, rfl, .inr ⟨⟨vs, sameSqT g2.good.sub hq⟩, k l _ F2 H1 q1 g2 (.tup hq r)⟩⟩⟩
/-- range(n), range(a, b) -/
def upTo (lo : Int) (n : Nat) : List T := (List.range n).map fun (i : Nat) => T.int (lo + (i : Int))
theorem upTo_length {lo : Int} {n : Nat} : (upTo lo n).length = n := by unfold upTo; rw [List.length_map, List.length_range]
theorem WalkT.range {K : PySem.W.Frag} {pa : Addr} {F : Hp} {lo : Int} {n : Nat} : WalkT K pa F (Itr lo n) (upTo lo n) where
  goes := fun i F2 H2 hi s g => by rw [upTo_length] at hi; exact hi
  stops := fun F2 H2 s g => by rw [upTo_length]; exact Nat.le_refl _
  yields := fun i F2 H2 x H3 hi s g y => by
    obtain ⟨rfl, rfl⟩ := y
    rw [upTo_length] at hi
    exact ⟨.int (lo + i), F2, by unfold upTo; rw [List.getElem?_map, List.getElem?_range hi]; rfl, .refl g, .int _⟩
def iR1 (t : RE) : RI := fun e Q E => t e (fun s => match s with
  | .p (.int j) => (-(2 ^ 62) ≤ j ∧ j < 2 ^ 62) ∧ Q (upTo 0 j.toNat)
  | _ => False) E
def iR2 (ta tb : RE) : RI := fun e Q E => ta e (fun s => tb e (fun u => match s, u with
  | .p (.int i), .p (.int j) => (-(2 ^ 62) ≤ i ∧ i < 2 ^ 62 ∧ -(2 ^ 62) ≤ j ∧ j < 2 ^ 62) ∧ Q (upTo i (j - i).toNat)
  | _, _ => False) E) E
theorem vi_range1 {tg a : Expr} {t : RE} {p pos : Pos} (ha : BE X W a t) (hm : X.mg "range" = none) (hg : Gl X "range" := by rfl) (hs : starEach [a] X.env = [(false, eval a X.env)] := by rfl) : VI X W tg (.Call (.Name "range" p) [a] [] pos) (iR1 t) :=
  ⟨PI.imp (pi_range1 hg hm (ba_cons ha ba_nil hs).run hs) fun σ H Q ⟨C, F, e, O, Qt, Et, rl, q, k, x⟩ => by
    refine ⟨C, F, e, O, _, Et, rl, show rCons t rNil e (fun ss => match ss with | [s] => (match s with | .p (.int j) => (-(2 ^ 62) ≤ j ∧ j < 2 ^ 62) ∧ Qt (upTo 0 j.toNat) | _ => False) | _ => False) Et from q, fun ss vs F1 H1 q1 g1 b1 => ?_, x⟩
    cases b1 with
    | nil => exact q1.elim
    | cons b1 bt =>
      cases bt with
      | cons _ _ => exact q1.elim
      | nil =>
        dsimp only at q1
        split at q1
        · obtain rfl := b1.int
          exact ⟨_, rfl, q1.1.1, q1.1.2, k _ _ F1 H1 q1.2 g1 .range⟩
        · exact q1.elim⟩
theorem vi_range2 {tg a b : Expr} {ta tb : RE} {p pos : Pos} (ha : BE X W a ta) (hb : BE X W b tb) (hm : X.mg "range" = none) (hg : Gl X "range" := by rfl) (hs : starEach [a, b] X.env = [(false, eval a X.env), (false, eval b X.env)] := by rfl) (hs2 : starEach [b] X.env = [(false, eval b X.env)] := by rfl) : VI X W tg (.Call (.Name "range" p) [a, b] [] pos) (iR2 ta tb) :=
  ⟨PI.imp (pi_range2 hg hm (ba_cons ha (ba_cons hb ba_nil hs2) (by rw [hs, hs2])).run hs hs2) fun σ H Q ⟨C, F, e, O, Qt, Et, rl, q, k, x⟩ => by
    refine ⟨C, F, e, O, _, Et, rl, show rCons ta (rCons tb rNil) e (fun ss => match ss with | [s, u] => (match s, u with | .p (.int i), .p (.int j) => (-(2 ^ 62) ≤ i ∧ i < 2 ^ 62 ∧ -(2 ^ 62) ≤ j ∧ j < 2 ^ 62) ∧ Qt (upTo i (j - i).toNat) | _, _ => False) | _ => False) Et from q, fun ss vs F1 H1 q1 g1 b1 => ?_, x⟩
    cases b1 with
    | nil => exact q1.elim
    | cons b1 bt =>
      cases bt with
      | nil => exact q1.elim
      | cons b2 bt =>
        cases bt with
        | cons _ _ => exact q1.elim
        | nil =>
          dsimp only at q1
          split at q1
          · obtain rfl := b1.int
            obtain rfl := b2.int
            exact ⟨_, _, rfl, q1.1, k _ _ F1 H1 q1.2 g1 .range⟩
          · exact q1.elim⟩
/-- enumerate(x) -/
def enumT : List T → Nat → List T
  | [], _ => []
  | x :: l, n => .tup [.int n, x] :: enumT l (n + 1)
theorem enumT_length : ∀ (l : List T) (n : Nat), (enumT l n).length = l.length
  | [], _ => rfl
  | _ :: l, n => congrArg (· + 1) (enumT_length l (n + 1))
theorem enumT_get : ∀ (l : List T) (n i : Nat) (x : T), l[i]? = some x → (enumT l n)[i]? = some (.tup [.int ((n + i : Nat) : Int), x])
  | [], _, _, _, h => by simp at h
  | y :: l, n, 0, x, h => by
    simp at h
    subst h
    rfl
  | y :: l, n, i + 1, x, h => by
    have ih := enumT_get l (n + 1) i x (by simpa using h)
    rw [show n + (i + 1) = n + 1 + i by omega]
    simpa [enumT] using ih
theorem WalkT.enum {K : PySem.W.Frag} {pa : Addr} {F : Hp} {a : Addr} {vs : List V} {l : List T} (h : F a = some (.lst vs)) (r : Rps K pa F vs l) : WalkT K pa F (Ite K a) (enumT l 0) where
  goes := fun i F2 H2 hi s g => by
    rw [enumT_length] at hi
    obtain ⟨v, e, _⟩ := r.get (List.getElem?_eq_getElem hi)
    exact ⟨vs, v, .inl (.inl (g.sub _ _ (s _ _ h))), e⟩
  stops := fun F2 H2 s g => ⟨vs, .inl (.inl (g.sub _ _ (s _ _ h))), by rw [r.length, enumT_length]; exact Nat.le_refl _⟩
  yields := fun i F2 H2 x H3 hi s g y => by
    obtain ⟨Tp, u, rfl, hT, rfl, y⟩ := y
    obtain ⟨t, e, w⟩ := r.getV (y vs (.inl (.inl (g.sub _ _ (s _ _ h)))))
    have g3 := Grow.laidF g (o := .tup [.int (i : Nat), u]) hT
    refine ⟨.tup [.int (i : Nat), t], _, ?_, g3, .tup (.inl (.inl upd_same)) (.cons (.int _) (.one ((w.mono s).mono g3.f)))⟩
    have := enumT_get l 0 i t e
    rw [Nat.zero_add] at this
    exact this
theorem WalkT.enumT {K : PySem.W.Frag} {pa : Addr} {F : Hp} {a : Addr} {vs : List V} {l : List T} (h : SqT K F a vs) (r : Rps K pa F vs l) : WalkT K pa F (IteT K a) (TLY.enumT l 0) where
  goes := fun i F2 H2 hi s g => by
    rw [enumT_length] at hi
    obtain ⟨v, e, _⟩ := r.get (List.getElem?_eq_getElem hi)
    exact ⟨vs, v, sameSqT g.sub (sameSqT s h), e⟩
  stops := fun F2 H2 s g => ⟨vs, sameSqT g.sub (sameSqT s h), by rw [r.length, enumT_length]; exact Nat.le_refl _⟩
  yields := fun i F2 H2 x H3 hi s g y => by
    obtain ⟨Tp, u, rfl, hT, rfl, y⟩ := y
    obtain ⟨t, e, w⟩ := r.getV (y vs (sameSqT g.sub (sameSqT s h)))
    have g3 := Grow.laidF g (o := .tup [.int (i : Nat), u]) hT
    refine ⟨.tup [.int (i : Nat), t], _, ?_, g3, .tup (.inl (.inl upd_same)) (.cons (.int _) (.one ((w.mono s).mono g3.f)))⟩
    have := enumT_get l 0 i t e
    rw [Nat.zero_add] at this
    exact this
def iEnumR (t : RE) : RI := fun e Q E => t e (fun s => ∃ l, s.fz.items? = some l ∧ Q (enumT l 0)) E
theorem vi_enum {elts : List Expr} {kk : Nat} {tpos : Pos} {a : Expr} {t : RE} {p pos : Pos} (ha : VE X W a t) (hm : X.mg "enumerate" = none) (hg : Gl X "enumerate" := by rfl) (hs : starEach [a] X.env = [(false, eval a X.env)] := by rfl) : VI X W (.Tuple elts kk tpos) (.Call (.Name "enumerate" p) [a] [] pos) (iEnumR t) :=
  ⟨PI.imp (pi_enumA hg hm (fa_cons ha fa_nil hs).run hs) fun σ H Q ⟨C, F, e, O, Qt, Et, rl, q, k, x⟩ => by
    refine ⟨C, F, e, O, _, Et, rl, show fCons t fNil e (fun ss => match ss with | [s] => ∃ l, s.items? = some l ∧ Qt (enumT l 0) | _ => False) Et from q, fun ss vs F1 H1 q1 g1 b1 => ?_, x⟩
    cases b1 with
    | nil => exact q1.elim
    | cons b1 bt =>
      cases bt with
      | cons _ _ => exact q1.elim
      | nil =>
        obtain ⟨l, e1, q1⟩ := q1
        obtain ⟨a, ws, rfl, hq, r⟩ := b1.items e1
        rcases hq with hq | hq
        · exact ⟨a, ws, rfl, .inl ⟨.inl (.inl (g1.good.sub _ _ hq)), k _ _ F1 H1 q1 g1 (.enum hq r)⟩⟩
        · exact ⟨a, ws, rfl, .inr ⟨sameSqT g1.good.sub hq, k _ _ F1 H1 q1 g1 (.enumT hq r)⟩⟩⟩
end
end TLY

/-! Tree layer, part 6: zip, reversed, targets, comprehensions. -/
namespace TLY
open PySem PySem.Spec PyProof.Rows L2
section
variable {X : Cx} {W : WX}
/-! ### zip, reversed -/
def zipT : List T → List T → List T
  | x :: l, y :: m => .tup [x, y] :: zipT l m
  | _, _ => []
theorem zipT_length : ∀ l m : List T, (zipT l m).length = min l.length m.length
  | [], _ => by simp [zipT]
  | _ :: _, [] => by simp [zipT]
  | _ :: l, _ :: m => by
    show (zipT l m).length + 1 = min (l.length + 1) (m.length + 1)
    rw [zipT_length l m]
    omega
theorem zipT_get : ∀ (l m : List T) (i : Nat) (x y : T), l[i]? = some x → m[i]? = some y → (zipT l m)[i]? = some (.tup [x, y])
  | [], _, _, _, _, h, _ => by simp at h
  | _ :: _, [], _, _, _, _, h => by simp at h
  | a :: l, b :: m, 0, x, y, h, h2 => by
    simp at h h2
    subst h
    subst h2
    rfl
  | a :: l, b :: m, i + 1, x, y, h, h2 => zipT_get l m i x y (by simpa using h) (by simpa using h2)
theorem WalkT.zipL {K : PySem.W.Frag} {pa : Addr} {F : Hp} {a b : Addr} {vs ws : List V} {l m : List T} (h : F a = some (.lst vs)) (r : Rps K pa F vs l) (h' : F b = some (.lst ws)) (r' : Rps K pa F ws m) : WalkT K pa F (Itz K a b) (zipT l m) where
  goes := fun i F2 H2 hi s g => by
    rw [zipT_length] at hi
    obtain ⟨v, e, _⟩ := r.get (List.getElem?_eq_getElem (show i < l.length by omega))
    obtain ⟨v', e', _⟩ := r'.get (List.getElem?_eq_getElem (show i < m.length by omega))
    exact ⟨vs, ws, v, v', .inl (.inl (g.sub _ _ (s _ _ h))), .inl (.inl (g.sub _ _ (s _ _ h'))), e, e'⟩
  stops := fun F2 H2 s g => ⟨vs, ws, .inl (.inl (g.sub _ _ (s _ _ h))), .inl (.inl (g.sub _ _ (s _ _ h'))), by rw [r.length, r'.length, zipT_length]; omega⟩
  yields := fun i F2 H2 x H3 hi s g y => by
    obtain ⟨Tp, u, u', rfl, hT, rfl, y, y'⟩ := y
    obtain ⟨t, e, w⟩ := r.getV (y vs (.inl (.inl (g.sub _ _ (s _ _ h)))))
    obtain ⟨t', e', w'⟩ := r'.getV (y' ws (.inl (.inl (g.sub _ _ (s _ _ h')))))
    have g3 := Grow.laidF g (o := .tup [u, u']) hT
    exact ⟨.tup [t, t'], _, zipT_get _ _ _ _ _ e e', g3, .tup (.inl (.inl upd_same)) (.cons ((w.mono s).mono g3.f) (.one ((w'.mono s).mono g3.f)))⟩
theorem WalkT.zipT {K : PySem.W.Frag} {pa : Addr} {F : Hp} {a b : Addr} {vs ws : List V} {l m : List T} (h : SqT K F a vs) (r : Rps K pa F vs l) (h' : SqT K F b ws) (r' : Rps K pa F ws m) : WalkT K pa F (RZ.ItzT K a b) (TLY.zipT l m) where
  goes := fun i F2 H2 hi s g => by
    rw [zipT_length] at hi
    obtain ⟨v, e, _⟩ := r.get (List.getElem?_eq_getElem (show i < l.length by omega))
    obtain ⟨v', e', _⟩ := r'.get (List.getElem?_eq_getElem (show i < m.length by omega))
    exact ⟨vs, ws, v, v', sameSqT g.sub (sameSqT s h), sameSqT g.sub (sameSqT s h'), e, e'⟩
  stops := fun F2 H2 s g => ⟨vs, ws, sameSqT g.sub (sameSqT s h), sameSqT g.sub (sameSqT s h'), by rw [r.length, r'.length, zipT_length]; omega⟩
  yields := fun i F2 H2 x H3 hi s g y => by
    obtain ⟨Tp, u, u', rfl, hT, rfl, y, y'⟩ := y
    obtain ⟨t, e, w⟩ := r.getV (y vs (sameSqT g.sub (sameSqT s h)))
    obtain ⟨t', e', w'⟩ := r'.getV (y' ws (sameSqT g.sub (sameSqT s h')))
    have g3 := Grow.laidF g (o := .tup [u, u']) hT
    exact ⟨.tup [t, t'], _, zipT_get _ _ _ _ _ e e', g3, .tup (.inl (.inl upd_same)) (.cons ((w.mono s).mono g3.f) (.one ((w'.mono s).mono g3.f)))⟩
/-- both lists, or both tuples -/
def zip2? : T → T → Option (List T)
  | .lst l, .lst m => some (zipT l m)
  | .tup l, .tup m => some (zipT l m)
  | _, _ => none
def iZipR (ta tb : RE) : RI := fun e Q E => ta e (fun s => tb e (fun u => ∃ l, zip2? s.fz u.fz = some l ∧ Q l) E) E
theorem vi_zip {elts : List Expr} {kk : Nat} {tpos : Pos} {a b : Expr} {ta tb : RE} {p pos : Pos} (ha : VE X W a ta) (hb : VE X W b tb) (hm : X.mg "zip" = none) (hg : Gl X "zip" := by rfl)
    (hs : starEach [a, b] X.env = (false, eval a X.env) :: starEach [b] X.env := by rfl) (hs2 : starEach [b] X.env = (false, eval b X.env) :: starEach [] X.env := by rfl) (hpl : (backTo pos (starEach [b] X.env)).any (·.1) = false := by rfl) :
    VI X W (.Tuple elts kk tpos) (.Call (.Name "zip" p) [a, b] [] pos) (iZipR ta tb) :=
  ⟨PI.imp (RZ.pi_zipA hg hm (fa_cons ha (fa_cons hb fa_nil hs2) hs).run hs hpl) fun σ H Q ⟨C, F, e, O, Qt, Et, rl, q, k, x⟩ => by
    refine ⟨C, F, e, O, _, Et, rl, show fCons ta (fCons tb fNil) e (fun ss => match ss with | [s, u] => ∃ l, zip2? s u = some l ∧ Qt l | _ => False) Et from q, fun ss vs F1 H1 q1 g1 b1 => ?_, x⟩
    cases b1 with
    | nil => exact q1.elim
    | cons b1 bt =>
      cases bt with
      | nil => exact q1.elim
      | cons b2 bt =>
        cases bt with
        | cons _ _ => exact q1.elim
        | nil =>
          obtain ⟨l, e1, q1⟩ := q1
          unfold zip2? at e1
          split at e1
          · cases e1
            cases b1 with
            | lst h r =>
              cases b2 with
              | lst h' r' => exact ⟨_, _, _, _, rfl, .inl ⟨.inl (.inl (g1.good.sub _ _ h)), .inl (.inl (g1.good.sub _ _ h')), k _ _ F1 H1 q1 g1 (.zipL h r h' r')⟩⟩
          · cases e1
            cases b1 with
            | tup h r =>
              cases b2 with
              | tup h' r' => exact ⟨_, _, _, _, rfl, .inr ⟨sameSqT g1.good.sub h, sameSqT g1.good.sub h', k _ _ F1 H1 q1 g1 (.zipT h r h' r')⟩⟩
          · cases e1⟩
theorem rev_get {α : Type} {xs : List α} {i : Nat} (h : i < xs.length) : xs.reverse[i]? = xs[xs.length - 1 - i]? := List.getElem?_reverse h
theorem WalkT.rev {K : PySem.W.Frag} {pa : Addr} {F : Hp} {a : Addr} {vs : List V} {l : List T} (h : F a = some (.lst vs)) (r : Rps K pa F vs l) : WalkT K pa F (Itv K a vs.length) l.reverse where
  goes := fun i F2 H2 hi s g => by
    rw [List.length_reverse] at hi
    have hl := r.length
    exact ⟨by omega, vs, vs[vs.length - 1 - i]'(by omega), .inl (.inl (g.sub _ _ (s _ _ h))), by simp [show vs.length - 1 - i < vs.length by omega]⟩
  stops := fun F2 H2 s g => by
    show vs.length ≤ l.reverse.length
    rw [List.length_reverse, r.length]
    exact Nat.le_refl _
  yields := fun i F2 H2 x H3 hi s g y => by
    obtain ⟨rfl, y⟩ := y
    rw [List.length_reverse] at hi
    obtain ⟨t, e, w⟩ := r.getV (y vs (.inl (.inl (g.sub _ _ (s _ _ h)))))
    exact ⟨t, F2, by rw [rev_get hi, ← r.length]; exact e, .refl g, w.mono s⟩
theorem WalkT.revT {K : PySem.W.Frag} {pa : Addr} {F : Hp} {a : Addr} {vs : List V} {l : List T} (h : SqT K F a vs) (r : Rps K pa F vs l) : WalkT K pa F (RT.ItvT K a vs.length) l.reverse where
  goes := fun i F2 H2 hi s g => by
    rw [List.length_reverse] at hi
    have hl := r.length
    exact ⟨by omega, vs, vs[vs.length - 1 - i]'(by omega), sameSqT g.sub (sameSqT s h), by simp [show vs.length - 1 - i < vs.length by omega]⟩
  stops := fun F2 H2 s g => by
    show vs.length ≤ l.reverse.length
    rw [List.length_reverse, r.length]
    exact Nat.le_refl _
  yields := fun i F2 H2 x H3 hi s g y => by
    obtain ⟨rfl, y⟩ := y
    rw [List.length_reverse] at hi
    obtain ⟨t, e, w⟩ := r.getV (y vs (sameSqT g.sub (sameSqT s h)))
    exact ⟨t, F2, by rw [rev_get hi, ← r.length]; exact e, .refl g, w.mono s⟩
def iRevR (t : RE) : RI := fun e Q E => t e (fun s => ∃ l, s.fz.items? = some l ∧ Q l.reverse) E
theorem vi_rev {tg a : Expr} {t : RE} {p pos : Pos} (ha : VE X W a t) (hm : X.mg "reversed" = none) (hg : Gl X "reversed" := by rfl) (hs : starEach [a] X.env = (false, eval a X.env) :: starEach [] X.env := by rfl) : VI X W tg (.Call (.Name "reversed" p) [a] [] pos) (iRevR t) :=
  ⟨PI.imp (RT.pi_revA hg hm ha.run hs) fun σ H Q ⟨C, F, e, O, Qt, Et, rl, q, k, x⟩ => by
    refine ⟨C, F, e, O, _, Et, rl, q, fun s v F1 H1 ⟨l, e1, q1⟩ g1 b1 => ?_, x⟩
    obtain ⟨F2, g2, _, w⟩ := b1.told rl.ext.good g1
    obtain ⟨a, vs, rfl, hq, r⟩ := w.items e1
    rcases hq with hq | hq
    · exact ⟨a, vs, rfl, .inl ⟨.inl (.inl (g2.good.sub _ _ hq)), k _ _ F2 H1 q1 g2 (.rev hq r)⟩⟩
    · exact ⟨a, vs, rfl, .inr ⟨sameSqT g2.good.sub hq, k _ _ F2 H1 q1 g2 (.revT hq r)⟩⟩⟩
/-! ### targets -/
theorem wipe_set {σ : L2.St} {x : Option V} : ∀ {vs : List Nat} {i : Nat}, i ∈ vs → wipe (σ.set i x) vs = wipe σ vs
  | [], _, h => by simp at h
  | v :: vs, i, h => by
    show (wipe (σ.set i x) vs).set v none = (wipe σ vs).set v none
    by_cases hv : i ∈ vs
    · rw [wipe_set hv]
    · have e : i = v := by
        rcases List.mem_cons.mp h with z | z
        · exact z
        · exact absurd z hv
      subst e
      clear h
      have out : ∀ {us : List Nat}, i ∉ us → wipe (σ.set i x) us = (wipe σ us).set i x := by
        intro us
        induction us with
        | nil => intro _; rfl
        | cons u us ih =>
          intro hn
          show (wipe (σ.set i x) us).set u none = ((wipe σ us).set u none).set i x
          rw [ih fun z => hn (List.mem_cons_of_mem _ z)]
          exact List.set_comm _ _ fun z => hn (z ▸ List.mem_cons_self)
      rw [out hv, List.set_set]
theorem wipe_self {σ : L2.St} : ∀ {vs us : List Nat}, (∀ v ∈ vs, v ∈ us) → wipe (wipe σ vs) us = wipe σ us
  | [], _, _ => rfl
  | v :: vs, us, h => by
    show wipe ((wipe σ vs).set v none) us = _
    rw [wipe_set (h v List.mem_cons_self), wipe_self fun z hz => h z (List.mem_cons_of_mem _ hz)]
abbrev RG := T → Sl → (Sl → Prop) → Prop
/-- a target by values does what it does by trees; it stores nothing but vs -/
def TgT (K : PySem.W.Frag) (g : TG) (vs : List Nat) (gt : RG) : Prop := ∀ C F H σ e O v t (Qt : Sl → Prop) (Q : L2.St → Hp → Prop), Rel K C F H σ e O → Rp K C.pa F v t → gt t e Qt →
  (∀ σ' e' O', Rel K C F H σ' e' O' → Qt e' → wipe σ' vs = wipe σ vs → Q σ' H) → g v σ H Q
def gN (i : Nat) : RG := fun t e Q => Q (e.set i (some (.p t)))
theorem Rel.setN {K : PySem.W.Frag} {C : Ctx} {F H : Hp} {σ : L2.St} {e : Sl} {O : Nat → List Addr} (r : Rel K C F H σ e O) {i : Nat} {v : V} {t : T} (w : Rp K C.pa F v t) : ∃ O', Rel K C F H (σ.set i (some v)) (e.set i (some (.p t))) O' := by
  by_cases hi : i < e.length
  · exact r.setP hi w
  · exact ⟨O, by rw [List.set_eq_of_length_le (by rw [r.len]; omega), List.set_eq_of_length_le (by omega)]; exact r⟩
theorem tgT_name {K : PySem.W.Frag} {vs : List Nat} {i : Nat} (h : i ∈ vs) : TgT K (gName i) vs (gN i) := fun C F H σ e O v t Qt Q r w q k => by
  obtain ⟨O', r'⟩ := r.setN (i := i) w
  exact k _ _ O' r' q (wipe_set h)
def gNames : List Nat → TGs
  | [] => gNil
  | i :: is => gCons (gName i) (gNames is)
def setAll : Sl → List Nat → List T → Sl
  | e, i :: is, t :: l => setAll (e.set i (some (.p t))) is l
  | e, _, _ => e
def gTs (is : List Nat) : RG := fun t e Q => ∃ l, t.items? = some l ∧ l.length = is.length ∧ Q (setAll e is l)
def gTL (K : PySem.W.Frag) (n : Nat) (t : TGs) : TG := fun v σ H Q => ∃ a xs, v = .ref a ∧ (SqT K H a xs ∨ SqL K H a xs) ∧ xs.length = n ∧ t xs σ H Q
theorem pg_tl {es : List Expr} {k : Nat} {pos : Pos} {t : TGs} {n : Nat} (hc : X.calm = true) (h : PGs X es t)
    (hn : (assignEach es X.env).length = n := by rfl) (hst : (assignEach es X.env).findIdx? (·.1) = none := by rfl) : PG X (.Tuple es k pos) (gTL X.K n t) := ⟨fun pins s σ H v u Q I r hw => by
  obtain ⟨a, xs, e1, hq, hl, hw⟩ := hw
  rcases hq with hq | hq
  · exact (pg_tup hc h hn hst).run pins s σ H v u Q I r ⟨a, xs, e1, hq, hl, hw⟩
  · exact (pg_unl hc h hn hst).run pins s σ H v u Q I r ⟨a, xs, e1, hq, hl, hw⟩⟩
theorem tgT_names {K : PySem.W.Frag} {vs : List Nat} : ∀ {is : List Nat}, (∀ i ∈ is, i ∈ vs) → ∀ C F H σ e O xs l (Qt : Sl → Prop) (Q : L2.St → Hp → Prop), Rel K C F H σ e O → Rps K C.pa F xs l → l.length = is.length → Qt (setAll e is l) →
    (∀ σ' e' O', Rel K C F H σ' e' O' → Qt e' → wipe σ' vs = wipe σ vs → Q σ' H) → gNames is xs σ H Q
  | [], _, C, F, H, σ, e, O, xs, l, Qt, Q, r, w, hl, q, k => by
    cases w with
    | nil => exact ⟨rfl, k _ _ O r q rfl⟩
    | cons _ _ => simp at hl
  | i :: is, h, C, F, H, σ, e, O, xs, l, Qt, Q, r, w, hl, q, k => by
    cases w with
    | nil => simp at hl
    | cons w1 w2 =>
      obtain ⟨O', r'⟩ := r.setN (i := i) w1
      refine ⟨_, _, rfl, ?_⟩
      exact tgT_names (fun j hj => h j (List.mem_cons_of_mem _ hj)) C F H _ _ O' _ _ Qt Q r' w2 (by simpa using hl) q fun σ' e' O2 r2 q2 e2 => k σ' e' O2 r2 q2 (by rw [e2, wipe_set (h i List.mem_cons_self)])
theorem tgT_tup {K : PySem.W.Frag} {vs is : List Nat} (h : ∀ i ∈ is, i ∈ vs) {n : Nat} (hn : n = is.length) : TgT K (gTL K n (gNames is)) vs (gTs is) := fun C F H σ e O v t Qt Q r w ⟨l, hi, hl, q⟩ k => by
  obtain ⟨a, xs, rfl, hq, rr⟩ := w.items hi
  refine ⟨a, xs, rfl, ?_, by rw [rr.length, hl, hn], tgT_names h C F H σ e O xs l Qt Q r rr hl q k⟩
  rcases hq with hq | hq
  · exact .inr (.inl (.inl (r.ext.good.sub _ _ hq)))
  · exact .inl (sameSqT r.ext.good.sub hq)
/-! ### comprehensions -/
def W0 : WX := fun _ _ _ _ => False
def lcW (g : RG) (tt : RT) (te : RE) (e : Sl) (k : List T → Prop) : List T → List T → Prop
  | [], acc => k acc
  | x :: l, acc => g x e fun e1 => tt e1 (fun b => if b = true then te e1 (fun r => acc.length < sizeLine ∧ lcW g tt te e k l (acc ++ [r.fz])) (fun _ => False) else lcW g tt te e k l acc) (fun _ => False)
def rLc (ti : RI) (g : RG) (tt : RT) (te : RE) (vs : List Nat) : RE := fun e Q E => ti e (fun l => lcW g tt te (wipeE e vs) (fun acc => Q (.l1 acc)) l []) E
def rYes : RT := fun _ Q _ => Q true
structure VTs (X : Cx) (W : WX) (ifs : List Expr) (t : RT) : Prop where
  run : PTs X ifs (liftT X.K W t)
theorem PTs.imp {ifs : List Expr} {t t' : TT} (h : PTs X ifs t) (i : ∀ σ H Q, t' σ H Q → t σ H Q) : PTs X ifs t' := ⟨fun pins s σ H Q I q => h.run pins s σ H Q I (i σ H Q q)⟩
theorem vts_nil : VTs X W [] rYes := ⟨PTs.imp pts_nil fun σ H Q ⟨C, F, e, O, Qt, Et, r, q, k, x⟩ => k true F H q (.refl r.ext.good)⟩
theorem vts_one {c : Expr} {t : RT} (h : VT X W c t) : VTs X W [c] t := ⟨pts_one h.run⟩
theorem exW0 {K : PySem.W.Frag} {pa : Addr} {F H : Hp} {W : WX} {σ : L2.St} : ExW K pa F H W σ (fun _ => False) := fun _ _ _ _ _ h => h.elim
/-- the reading of one clause's comprehension -/
theorem lc_run {K : PySem.W.Frag} {ti : RI} {g : TG} {gt : RG} {tt : RT} {te : RE} {vs : List Nat} (tg : TgT K g vs gt) {σ : L2.St} {H : Hp} {Q : VK} (h : liftV K W (rLc ti gt tt te vs) σ H Q) :
    tLc (liftI K W ti) g (liftT K W0 tt) (liftV K W0 te) vs σ H Q := by
  obtain ⟨C, F, e, O, Qt, Et, rl, q, k, x⟩ := h
  refine ⟨C, F, e, O, _, Et, rl, q, fun l J F1 H1 q1 g1 wk D hD => ?_, x⟩
  have r1 := rl.grow g1
  have gd := g1.good
  refine ⟨fun i m H' => m = l.length - i ∧ i ≤ l.length ∧ ∃ F' acc vsacc, Grow K C.pa F1 H1 F' H' ∧ F' D = none ∧ H' D = some (.lst vsacc) ∧ Rps K C.pa F' vsacc acc ∧ lcW gt tt te (wipeE e vs) (fun acc => Qt (.l1 acc)) (l.drop i) acc,
    ⟨l.length, by simp, Nat.zero_le _, F1, [], [], .laid gd hD, gd.fnone hD, upd_same, .nil, q1⟩, ?_⟩
  rintro i m H' ⟨rfl, hi, F', acc, vsacc, gg, fD, hDl, ra, q2⟩
  by_cases hlt : i < l.length
  · refine .inr ⟨wk.goes i F' H' hlt gg.f gg.good, fun H5 => ∃ F5 acc5 vsacc5, Grow K C.pa F1 H1 F5 H5 ∧ F5 D = none ∧ H5 D = some (.lst vsacc5) ∧ Rps K C.pa F5 vsacc5 acc5 ∧ lcW gt tt te (wipeE e vs) (fun acc => Qt (.l1 acc)) (l.drop (i + 1)) acc5, fun H5 h5 => ⟨l.length - (i + 1), by omega, rfl, hlt, h5⟩, fun v H3 y => ?_⟩
    obtain ⟨t, F3, et, g3, w3⟩ := wk.yields i F' H' v H3 hlt gg.f gg.good y
    have el : l.drop i = t :: l.drop (i + 1) := by
      rw [List.drop_eq_getElem_cons hlt]
      rw [List.getElem?_eq_getElem hlt] at et
      rw [Option.some.inj et]
    rw [el] at q2
    have keepD : ∀ {F4 H4}, Grow K C.pa F' H' F4 H4 → F4 D = none ∧ H4 D = some (.lst vsacc) := fun {F4 H4} g4 => by
      refine ⟨?_, g4.keep _ _ hDl (gd.ne hD)⟩
      cases z : F4 D with
      | none => rfl
      | some o =>
        rcases g4.new D o z with z1 | z1
        · rw [fD] at z1; cases z1
        · rw [hDl] at z1; cases z1
    obtain ⟨O3, r3⟩ := ((r1.grow (gg.trans g3)).wipe vs)
    refine tg C F3 H3 _ _ O3 v t _ _ r3 w3 q2 fun σ' e' O' r' q3 es => ⟨by rw [es, wipe_self fun z hz => hz], ?_⟩
    refine ⟨C, F3, e', O', _, _, r', q3, fun b F4 H4 q4 g4 => ?_, exW0⟩
    have g34 := g3.trans g4
    cases b with
    | false =>
      rw [if_neg Bool.false_ne_true] at q4
      refine iteF ?_
      obtain ⟨d1, d2⟩ := keepD g34
      exact ⟨F4, acc, vsacc, gg.trans g34, d1, d2, ra.mono g34.f, q4⟩
    | true =>
      rw [if_pos rfl] at q4
      refine iteT ?_
      refine ⟨C, F4, e', O', _, _, r'.grow g4, q4, fun s v5 F5 H5 ⟨hz, q5⟩ g5 b5 => ?_, exW0⟩
      obtain ⟨F6, g6, _, w6⟩ := b5.told g4.good g5
      have g36 := g34.trans g6
      obtain ⟨d1, d2⟩ := keepD g36
      refine ⟨vsacc, d2, by rw [ra.length]; exact hz, F6, acc ++ [s.fz], vsacc ++ [v5], ?_, d1, upd_same, (ra.mono g36.f).append (.one w6), q5⟩
      have G := gg.trans g36
      refine ⟨G.f, fun b o hb n => ?_, G.new, ?_⟩
      · rw [upd_ne (ne_of_none hb hD)]
        exact G.keep b o hb n
      · refine ⟨fun b o hb => ?_, ?_⟩
        · have ne : b ≠ D := fun z => by rw [z, d1] at hb; cases hb
          rw [upd_ne ne]
          exact G.good.sub b o hb
        · obtain ⟨o1, q, ns, i', d, s', e, r⟩ := G.good.pool
          exact ⟨o1, q, ns, i', d, s', by rw [upd_ne (gd.ne hD).symm]; exact e, r⟩
  · have e0 : i = l.length := by omega
    subst e0
    refine .inl ⟨wk.stops F' H' gg.f gg.good, ?_⟩
    rw [List.drop_length] at q2
    have G := g1.trans gg
    exact k _ _ F' H' q2 G ⟨[D], .l1 hDl ra, by simp, fun a ha => by
      obtain rfl : a = D := by simpa using ha
      exact ⟨g1.dom hD, fD⟩⟩
theorem ve_lc {elt tg iter : Expr} {ifs : List Expr} {scope : Scope} {own : List (Str × Nat)} {pos : Pos} {ti : RI} {g : TG} {gt : RG} {tt : RT} {te : RE} (hc : X.calm = true) (hN : X.N.Nodup) (hi : VI X W tg iter ti) (ok : BlkOk X.N X.env.scope scope own)
    (hg : ∀ (s : Shared) (H : Hp) (C : Addr) (cl : List (Str × Addr)) (fp : List Addr), PG (X.blk s H scope (compEnvC scope cl C X.env) fp) tg g) (tgt : TgT X.K g (own.map (·.2)) gt)
    (ht : ∀ (s : Shared) (H : Hp) (C : Addr) (cl : List (Str × Addr)) (fp : List Addr), VTs (X.blk s H scope (compEnvC scope cl C X.env) fp) W0 ifs tt)
    (he : ∀ (s : Shared) (H : Hp) (C : Addr) (cl : List (Str × Addr)) (fp : List Addr), VE (X.blk s H scope (compEnvC scope cl C X.env) fp) W0 elt te) (hs : ∀ x, foldedSetIterable iter X.env x = pure x := by intro _; rfl) :
    VE X W (.ListComp elt [⟨tg, iter, ifs, 0⟩] scope pos) (rLc ti gt tt te (own.map (·.2))) :=
  ⟨PE.imp (pe_lc hc hN hi.run ok hg (fun s H C cl fp => (ht s H C cl fp).run) (fun s H C cl fp => (he s H C cl fp).run) hs) fun σ H Q h => lc_run tgt h⟩
end
end TLY

/-! Tree layer, part 7: statements, blocks, loops, a def's body. -/
namespace TLY
open PySem PySem.Spec PyProof.Rows L2
structure EndsR where
  nx : Sl → Prop
  rt : S → Sl → Prop
  bk : Sl → Prop
  ct : Sl → Prop
  ex : Ex → Prop
abbrev RS := EndsR → Sl → Prop
/-- what a def hands back stands apart from what its slots own -/
def RetR (K : PySem.W.Frag) (C : Ctx) (F H : Hp) (σ : L2.St) (e : Sl) (v : V) (r : S) : Prop := ∃ O L, Rel K C F H σ e O ∧ Ow K C.pa F H v r L ∧ L.Nodup ∧ ∀ a ∈ L, Mine C F a ∧ ∀ i, a ∉ O i
structure Fol (K : PySem.W.Frag) (W : WX) (C : Ctx) (R : EndsR) (D : Ends) : Prop where
  nx : ∀ σ F H e O, Rel K C F H σ e O → R.nx e → D.nx σ H
  bk : ∀ σ F H e O, Rel K C F H σ e O → R.bk e → D.bk σ H
  ct : ∀ σ F H e O, Rel K C F H σ e O → R.ct e → D.ct σ H
  rt : ∀ σ F H e v r, RetR K C F H σ e v r → R.rt r e → D.rt v H
  ex : ∀ σ F H y cls d, Ext K C F H → σ.length = C.n → ExR K C.pa F H y cls d → R.ex y → W cls d σ H
def liftS (K : PySem.W.Frag) (W : WX) (t : RS) : TS := fun D σ H => ∃ C F e O R, Rel K C F H σ e O ∧ t R e ∧ Fol K W C R D
structure SV (X : Cx) (W : WX) (st : Stmt) (t : RS) : Prop where
  run : PS X st (liftS X.K W t)
structure SVs (X : Cx) (W : WX) (sts : List Stmt) (t : RS) : Prop where
  run : PSs X sts (liftS X.K W t)
theorem PSs.imp {X : Cx} {st : List Stmt} {t t' : TS} (h : PSs X st t) (i : ∀ D σ H, t' D σ H → t D σ H) : PSs X st t' := ⟨fun pins s σ H D I q => h.run pins s σ H D I (i D σ H q)⟩
section
variable {K : PySem.W.Frag} {C : Ctx} {F H F' H' : Hp} {σ : L2.St} {e : Sl} {O : Nat → List Addr} {W : WX} {R : EndsR} {D : Ends}
theorem Fol.exw (f : Fol K W C R D) (x : Rel K C F H σ e O) : ExW K C.pa F H W σ R.ex := fun y cls d F' H' h g r => f.ex σ F' H' y cls d (x.ext.grow g) x.num r h
/-- the told heap at hand becomes the entry's -/
def Ctx.at (C : Ctx) (F : Hp) : Ctx := { C with F0 := F }
theorem Rel.base (r : Rel K C F H σ e O) : Rel K (C.at F) F H σ e O := ⟨⟨Same.refl _, r.ext.keep, r.ext.dom, fun b o h => .inl h, r.ext.good⟩, r.num, r.slot, r.nd, r.dj, r.own⟩
theorem Ext.unbase {F1 : Hp} (x : Ext K C F1 H') (y : Ext K (C.at F1) F H) : Ext K C F H := ⟨x.f.trans y.f, y.keep, y.dom, fun b o h => by
  rcases y.new b o h with z | z
  · exact x.new b o z
  · exact .inr z, y.good⟩
theorem Rel.unbase {F1 : Hp} (x : Ext K C F1 H') (r : Rel K (C.at F1) F H σ e O) : Rel K C F H σ e O := ⟨x.unbase r.ext, r.num, r.slot, r.nd, r.dj, r.own⟩
theorem RetR.unbase {F1 : Hp} {v : V} {s : S} (x : Ext K C F1 H') (r : RetR K (C.at F1) F H σ e v s) : RetR K C F H σ e v s := by
  obtain ⟨O, L, rl, w, nd, m⟩ := r
  exact ⟨O, L, rl.unbase x, w, nd, m⟩
theorem Fol.base {F1 : Hp} (f : Fol K W C R D) (x : Ext K C F1 H') : Fol K W (C.at F1) R D where
  nx := fun σ F H e O r h => f.nx σ F H e O (r.unbase x) h
  bk := fun σ F H e O r h => f.bk σ F H e O (r.unbase x) h
  ct := fun σ F H e O r h => f.ct σ F H e O (r.unbase x) h
  rt := fun σ F H e v s r h => f.rt σ F H e v s (r.unbase x) h
  ex := fun σ F H y cls d z n r h => f.ex σ F H y cls d (x.unbase z) n r h
theorem Rel.takeN (r : Rel K C F H σ e O) (g : Grow K C.pa F H F' H') {i : Nat} {v : V} {s : S} (w : Fresh K C.pa H F' H' v s) : ∃ O', Rel K C F' H' (σ.set i (some v)) (e.set i (some s)) O' := by
  by_cases hi : i < e.length
  · exact r.take g hi w
  · exact ⟨O, by rw [List.set_eq_of_length_le (by rw [r.len]; omega), List.set_eq_of_length_le (by omega)]; exact r.grow g⟩
theorem Fresh.ret (r : Rel K C F H σ e O) (g : Grow K C.pa F H F' H') {v : V} {s : S} (w : Fresh K C.pa H F' H' v s) : RetR K C F' H' σ e v s := by
  obtain ⟨L, w, nd, n⟩ := w
  refine ⟨O, L, r.grow g, w, nd, fun a ha => ⟨⟨(n a ha).2, r.ext.good.ne (n a ha).1, .inl (r.ext.dom a (n a ha).1)⟩, fun j hb => ?_⟩⟩
  obtain ⟨o, q⟩ := (r.slot j).there a hb
  rw [(n a ha).1] at q; cases q
end
section
variable {X : Cx} {W : WX}
/-! ### blocks -/
def rNext : RS := fun D e => D.nx e
def rSeq (t u : RS) : RS := fun D e => t { D with nx := u D } e
theorem svs_nil : SVs X W [] rNext := ⟨PSs.imp pss_nil fun D σ H ⟨C, F, e, O, R, r, q, f⟩ => f.nx σ F H e O r q⟩
theorem svs_cons {st : Stmt} {rest : List Stmt} {t u : RS} (h1 : SV X W st t) (h2 : SVs X W rest u) : SVs X W (st :: rest) (rSeq t u) :=
  ⟨PSs.imp (pss_cons h1.run h2.run) fun D σ H ⟨C, F, e, O, R, r, q, f⟩ => ⟨C, F, e, O, _, r, q, ⟨fun σ' F' H' e' O' r' q' => ⟨C, F', e', O', R, r', q', f⟩, f.bk, f.ct, f.rt, f.ex⟩⟩⟩
theorem svs_one {st : Stmt} {t : RS} (h : SV X W st t) : SVs X W [st] t := ⟨pss_one h.run⟩
theorem sv_pass {pos} : SV X W (.Pass pos) rNext := ⟨PS.imp ps_pass fun D σ H ⟨C, F, e, O, R, r, q, f⟩ => f.nx σ F H e O r q⟩
def rBreak : RS := fun D e => D.bk e
def rCont : RS := fun D e => D.ct e
theorem sv_break {pos} : SV X W (.Break pos) rBreak := ⟨PS.imp ps_break fun D σ H ⟨C, F, e, O, R, r, q, f⟩ => f.bk σ F H e O r q⟩
theorem sv_continue {pos} : SV X W (.Continue pos) rCont := ⟨PS.imp ps_continue fun D σ H ⟨C, F, e, O, R, r, q, f⟩ => f.ct σ F H e O r q⟩
/-- an expression as a statement -/
def rDrop (t : RE) : RS := fun D e => t e (fun _ => D.nx e) D.ex
theorem sv_expr {a : Expr} {t : RE} {pos : Pos} (h : VE X W a t) (hs : swapsWith a none pos.line X.env = pure false := by rfl) : SV X W (.Expr a pos) (rDrop t) :=
  ⟨PS.imp (ps_expr h.run hs) fun D σ H ⟨C, F, e, O, R, r, q, f⟩ => ⟨C, F, e, O, _, _, r, q, fun s v F' H' q' g _ => f.nx σ F' H' e O (r.grow g) q', f.exw r⟩⟩
def rRet (t : RE) : RS := fun D e => t e (fun s => D.rt s e) D.ex
theorem sv_ret {a : Expr} {t : RE} {pos} (h : VE X W a t) : SV X W (.Return (some a) pos) (rRet t) :=
  ⟨PS.imp (ps_ret h.run) fun D σ H ⟨C, F, e, O, R, r, q, f⟩ => ⟨C, F, e, O, _, _, r, q, fun s v F' H' q' g w => f.rt σ F' H' e v s (w.ret r g) q', f.exw r⟩⟩
def rRetN : RS := fun D e => D.rt (.p .non) e
theorem sv_retN {pos} : SV X W (.Return none pos) rRetN :=
  ⟨PS.imp ps_retN fun D σ H ⟨C, F, e, O, R, r, q, f⟩ => f.rt σ F H e .non _ ⟨O, [], r, .p .non, by simp, by simp⟩ q⟩
/-- the slot's own list goes to the caller -/
def rRetV (i : Nat) : RS := fun D e => match slotAt e i with
  | some s => D.rt s (e.set i none)
  | none => False
theorem sv_retV (i : Nat) {x : Str} {p pos : Pos} (hN : X.N[i]? = some x := by rfl) (hv : Vis X.env.scope x := by first | exact Or.inl rfl | exact Or.inr (Or.inl rfl) | exact Or.inr (Or.inr rfl)) (hd : (x == ("__debug__" : Str)) = false := by decide)
    (hcd : (x == ("__classdict__" : Str)) = false := by decide) : SV X W (.Return (some (.Name x p)) pos) (rRetV i) :=
  ⟨PS.imp (ps_ret (pe_var hN hv hd hcd)) fun D σ H ⟨C, F, e, O, R, r, q, f⟩ => by
    obtain ⟨s, hs, q⟩ : ∃ s, e[i]? = some (some s) ∧ R.rt s (e.set i none) := by
      unfold rRetV at q
      split at q
      · rename_i s hs
        exact ⟨s, slotAt_some hs, q⟩
      · exact q.elim
    obtain ⟨v, h1, w⟩ := r.at hs
    refine ⟨v, h1, f.rt σ F H _ v s ⟨fun j => if j = i then [] else O j, O i, ?_, w, r.nd i, fun a ha => ⟨r.own i a ha, fun j hj => ?_⟩⟩ q⟩
    · refine ⟨r.ext, r.num, fun j => ?_, fun j => ?_, fun j k a h1 h2 => ?_, fun j a ha => ?_⟩
      · by_cases h : j = i
        · subst h
          have hi : j < e.length := by
            rcases Nat.lt_or_ge j e.length with z | z
            · exact z
            · rw [List.getElem?_eq_none z] at hs; cases hs
          rw [if_pos rfl, h1, List.getElem?_set_self hi]
          exact .no
        · rw [if_neg h, List.getElem?_set_ne (Ne.symm h)]
          exact r.slot j
      · by_cases h : j = i
        · rw [if_pos h]; simp
        · rw [if_neg h]; exact r.nd j
      · by_cases hj : j = i
        · rw [if_pos hj] at h1; simp at h1
        · by_cases hk : k = i
          · rw [if_pos hk] at h2; simp at h2
          · rw [if_neg hj] at h1; rw [if_neg hk] at h2; exact r.dj j k a h1 h2
      · by_cases h : j = i
        · rw [if_pos h] at ha; simp at ha
        · rw [if_neg h] at ha; exact r.own j a ha
    · have hj : a ∈ (if j = i then [] else O j) := hj
      by_cases h : j = i
      · rw [if_pos h] at hj; simp at hj
      · rw [if_neg h] at hj; exact h (r.dj j i a hj ha)⟩
/-- told from here on: what slot i holds -/
def rFrz (i : Nat) (t : RS) : RS := fun D e => match slotAt e i with
  | some s => t D (e.set i (some (.p s.fz)))
  | none => False
theorem svs_frz (i : Nat) {sts : List Stmt} {t : RS} (h : SVs X W sts t) : SVs X W sts (rFrz i t) :=
  ⟨PSs.imp h.run fun D σ H ⟨C, F, e, O, R, r, q, f⟩ => by
    unfold rFrz at q
    split at q
    · rename_i s hs
      obtain ⟨F', O', r', _⟩ := r.froze (slotAt_some hs)
      exact ⟨C, F', _, O', R, r', q, f⟩
    · exact q.elim⟩
/-! ### if -/
def rIfS (c : RT) (t u : RS) : RS := fun D e => c e (fun b => if b = true then t D e else u D e) D.ex
theorem sv_if {c : Expr} {a b : List Stmt} {tc : RT} {t u : RS} {pos} (hc : VT X W c tc) (ha : SVs X W a t) (hb : SVs X W b u) : SV X W (.If c a b pos) (rIfS tc t u) :=
  ⟨PS.imp (ps_if hc.run ha.run hb.run) fun D σ H ⟨C, F, e, O, R, r, q, f⟩ => ⟨C, F, e, O, _, _, r, q, fun b F' H' q' g => by
    cases b with
    | true =>
      rw [if_pos rfl] at q'
      exact iteT ⟨C, F', e, O, R, r.grow g, q', f⟩
    | false =>
      rw [if_neg Bool.false_ne_true] at q'
      exact iteF ⟨C, F', e, O, R, r.grow g, q', f⟩, f.exw r⟩⟩
/-! ### stores to names -/
def rAsg (i : Nat) (t : RE) : RS := fun D e => t e (fun s => D.nx (e.set i (some s))) D.ex
theorem sv_set (i : Nat) {x : Str} {a : Expr} {t : RE} {pos pos' : Pos} (h : VE X W a t) (hN : X.N.Nodup) (hi : X.N[i]? = some x := by rfl) (hx : Loc X.env.scope x := by first | exact Or.inl rfl | exact Or.inr rfl) (hs : swapsWith a (some (.Name x pos')) pos.line X.env = pure false := by rfl)
    (hf : X.fn x = true ∨ X.env.scope.names.lookup x = some .local := by first | exact .inl rfl | exact .inr rfl) : SV X W (.Assign [.Name x pos'] a pos) (rAsg i t) :=
  ⟨PS.imp (ps_set hN hi hx h.run hs hf) fun D σ H ⟨C, F, e, O, R, r, q, f⟩ => ⟨C, F, e, O, _, _, r, q, fun s v F' H' q' g w => by
    obtain ⟨O', r'⟩ := r.takeN (i := i) g w
    exact f.nx _ F' H' _ O' r' q', f.exw r⟩⟩
/-- a, b = e; for one target of any form -/
def rAsgG (g : RG) (t : RE) : RS := fun D e => t e (fun s => g s.fz e D.nx) D.ex
theorem sv_asg {tg a : Expr} {t : RE} {g : TG} {gt : RG} {vs : List Nat} {pos : Pos} (h : VE X W a t) (hg : PG X tg g) (tgt : TgT X.K g vs gt) (hs : swapsWithSole [tg] a pos.line X.env = pure false := by rfl) (hw : swappedStores [tg] a X.env = pure none := by rfl)
    (h1 : (assignEach [tg] X.env).map (·.2) = [assign tg X.env] := by rfl) : SV X W (.Assign [tg] a pos) (rAsgG gt t) :=
  ⟨PS.imp (ps_asg h.run hg hs hw h1) fun D σ H ⟨C, F, e, O, R, r, q, f⟩ => ⟨C, F, e, O, _, _, r, q, fun s v F' H' q' g w => by
    obtain ⟨F2, g2, _, w2⟩ := w.told r.ext.good g
    exact tgt C F2 H' σ e O v s.fz _ _ (r.grow g2) w2 q' fun σ' e' O' r' q2 _ => f.nx σ' F2 H' e' O' r' q2, f.exw r⟩⟩
/-- name = [.. for ..] on one line -/
theorem sv_setLc (i : Nat) {y : Str} {py : Pos} {elt tg iter : Expr} {ifs : List Expr} {scope : Scope} {own : List (Str × Nat)} {pos spos : Pos} {ti : RI} {g : TG} {gt : RG} {tt : RT} {te : RE} (hc : X.calm = true) (hN : X.N.Nodup)
    (hi : VI X W tg iter ti) (ok : BlkOk X.N X.env.scope scope own)
    (hg : ∀ (s : Shared) (H : Hp) (C : Addr) (cl : List (Str × Addr)) (fp : List Addr), PG (X.blk s H scope (compEnvC scope cl C X.env) fp) tg g) (tgt : TgT X.K g (own.map (·.2)) gt)
    (ht : ∀ (s : Shared) (H : Hp) (C : Addr) (cl : List (Str × Addr)) (fp : List Addr), VTs (X.blk s H scope (compEnvC scope cl C X.env) fp) W0 ifs tt)
    (he : ∀ (s : Shared) (H : Hp) (C : Addr) (cl : List (Str × Addr)) (fp : List Addr), VE (X.blk s H scope (compEnvC scope cl C X.env) fp) W0 elt te)
    (hsw : swapsWith (.ListComp elt [⟨tg, iter, ifs, 0⟩] scope pos) (some (.Name y py)) spos.line X.env = pure true)
    (hy : X.N[i]? = some y := by rfl) (hyl : X.env.scope.names.lookup y = some .local := by rfl) (hs : ∀ x, foldedSetIterable iter X.env x = pure x := by intro _; rfl) :
    SV X W (.Assign [.Name y py] (.ListComp elt [⟨tg, iter, ifs, 0⟩] scope pos) spos) (rAsg i (rLc ti gt tt te (own.map (·.2)))) :=
  ⟨PS.imp (ps_setLc hc hN hy hyl hsw hi.run ok hg (fun s H C cl fp => (ht s H C cl fp).run) (fun s H C cl fp => (he s H C cl fp).run) hs) fun D σ H ⟨C, F, e, O, R, r, q, f⟩ =>
    lc_run tgt ⟨C, F, e, O, _, _, r, q, fun s v F' H' q' g w => by
      obtain ⟨O', r'⟩ := r.takeN (i := i) g w
      exact f.nx _ F' H' _ O' r' q', f.exw r⟩⟩
/-- a, b = x, y -/
def rPar (i j : Nat) (ta tb : RE) : RS := fun D e => ta e (fun s => tb e (fun u => D.nx ((e.set i (some s)).set j (some u))) D.ex) D.ex
theorem sv_par (i j : Nat) {x y : Str} {px py pt pt2 pos : Pos} {a b : Expr} {kt k2} {ta tb : RE} (ha : VE X W a ta) (hb : VE X W b tb) (hc : X.calm = true) (hN : X.N.Nodup) (hw : swappedStores [.Tuple [.Name x px, .Name y py] kt pt] (.Tuple [a, b] k2 pt2) X.env = pure (some [x, y]) := by rfl)
    (hi : X.N[i]? = some x := by rfl) (hj : X.N[j]? = some y := by rfl) (hij : i ≠ j := by decide) (hx : X.env.scope.names.lookup x = some .local := by rfl) (hy : X.env.scope.names.lookup y = some .local := by rfl)
    (h1 : starEach [a, b] X.env = (false, eval a X.env) :: starEach [b] X.env := by rfl) (h2 : starEach [b] X.env = (false, eval b X.env) :: starEach [] X.env := by rfl) :
    SV X W (.Assign [.Tuple [.Name x px, .Name y py] kt pt] (.Tuple [a, b] k2 pt2) pos) (rPar i j ta tb) :=
  ⟨PS.imp (ps_par hc hN hi hj hij hx hy (pa_cons ha.run (pa_cons hb.run pa_nil h2) h1) hw) fun D σ H ⟨C, F, e, O, R, r, q, f⟩ => by
    refine ⟨C, F, e, O, _, _, r, q, fun s v F1 H1 q1 g1 w1 => ?_, f.exw r⟩
    refine ⟨C, F1, e, O, _, _, r.grow g1, q1, fun u v2 F2 H2 q2 g2 w2 => ?_, f.exw (r.grow g1)⟩
    obtain ⟨O', r'⟩ := r.takeN (i := i) g1 w1
    obtain ⟨O2, r2⟩ := r'.takeN (i := j) g2 w2
    exact ⟨v, v2, rfl, f.nx _ F2 H2 _ O2 r2 q2⟩⟩
/-- x += e -/
def rAug (i : Nat) (f : S → S → (S → Prop) → Prop) (t : RE) : RS := fun D e => match slotAt e i with
  | some (.p s) => t e (fun u => f (.p s) u (fun z => D.nx (e.set i (some z)))) D.ex
  | _ => False
theorem sv_aug (i : Nat) {x : Str} {a : Expr} {op : Operator} {r : V → V → Hp → VK → Prop} {f : S → S → (S → Prop) → Prop} {t : RE} {pos pos' : Pos} (h : BE X W a t) (ho : OpR X (inplaceOp op) r) (o : OpT X.K r f) (hN : X.N.Nodup) (hi : X.N[i]? = some x := by rfl) (hx : Loc X.env.scope x := by first | exact Or.inl rfl | exact Or.inr rfl)
    (hf : X.fn x = true ∨ X.env.scope.names.lookup x = some .local := by first | exact .inl rfl | exact .inr rfl) : SV X W (.AugAssign (.Name x pos') op a pos) (rAug i f t) :=
  ⟨PS.imp (ps_aug (ti := r) hN hi hx h.run (fun pins s σ H x y v u Q I r1 r2 q => ho pins s σ H x y v u Q I r1 r2 q) hf) fun D σ H ⟨C, F, e, O, R, rl, q, fl⟩ => by
    obtain ⟨s, hs, q⟩ : ∃ s, e[i]? = some (some (.p s)) ∧ t e (fun u => f (.p s) u (fun z => R.nx (e.set i (some z)))) R.ex := by
      unfold rAug at q
      split at q
      · rename_i s hs
        exact ⟨s, slotAt_some hs, q⟩
      · exact q.elim
    obtain ⟨v, h1, hw⟩ := rl.at hs
    have w : Rp X.K C.pa F v s := by
      generalize O i = L at hw
      cases hw with
      | p w => exact w
    refine ⟨v, h1, C, F, e, O, _, _, rl, q, fun u v2 F1 H1 q1 g1 w1 => ?_, fl.exw rl⟩
    exact o C.pa F1 H1 v v2 (.p s) u _ _ g1.good (.pure (w.mono g1.f)) w1 q1 fun z v3 F2 H2 q2 g2 w3 => by
      obtain ⟨O', r'⟩ := (rl.grow g1).takeN (i := i) g2 w3
      exact fl.nx _ F2 H2 _ O' r' q2⟩
/-! ### for, while -/
def forW (g : RG) (tb : RS) (D : EndsR) : List T → Sl → Prop
  | [], e => D.nx e
  | x :: l, e => g x e fun e1 => tb { D with nx := forW g tb D l, ct := forW g tb D l, bk := D.nx } e1
def rFor (ti : RI) (g : RG) (tb : RS) : RS := fun D e => ti e (fun l => forW g tb D l e) D.ex
theorem sv_for {tg iter : Expr} {body : List Stmt} {ti : RI} {g : TG} {gt : RG} {vs : List Nat} {tb : RS} {pos : Pos} (hp : PassesOwn (model X.prog X.w) X.A X.env X.xe) (hc : X.calm = true) (hi : VI X W tg iter ti) (hg : PG X tg g) (tgt : TgT X.K g vs gt) (hb : SVs X W body tb)
    (hs : ∀ x, foldedSetIterable iter X.env x = pure x := by intro _; rfl) : SV X W (.For tg iter body [] pos) (rFor ti gt tb) :=
  ⟨PS.imp (ps_for hp hc hi.run hg hb.run hs) fun D σ H ⟨C, F, e, O, R, r, q, f⟩ => by
    refine ⟨C, F, e, O, _, _, r, q, fun l J F1 H1 q1 g1 wk => ?_, f.exw r⟩
    have r1 := r.grow g1
    have f1 := f.base r1.ext
    refine ⟨fun i m σ' H' => m = l.length - i ∧ i ≤ l.length ∧ ∃ F' e' O', Rel X.K (C.at F1) F' H' σ' e' O' ∧ forW gt tb R (l.drop i) e', ⟨l.length, by simp, Nat.zero_le _, F1, e, O, r1.base, q1⟩, ?_⟩
    rintro i m σ' H' ⟨rfl, hi, F', e', O', r', q'⟩
    by_cases hlt : i < l.length
    · refine .inr ⟨wk.goes i F' H' hlt r'.ext.f r'.ext.good, fun σ2 H2 => ∃ F2 e2 O2, Rel X.K (C.at F1) F2 H2 σ2 e2 O2 ∧ forW gt tb R (l.drop (i + 1)) e2, fun σ2 H2 h2 => ⟨l.length - (i + 1), by omega, rfl, hlt, h2⟩, fun v H3 y => ?_⟩
      obtain ⟨t, F3, et, g3, w3⟩ := wk.yields i F' H' v H3 hlt r'.ext.f r'.ext.good y
      have el : l.drop i = t :: l.drop (i + 1) := by
        rw [List.drop_eq_getElem_cons hlt]
        rw [List.getElem?_eq_getElem hlt] at et
        rw [Option.some.inj et]
      rw [el] at q'
      refine tgt (C.at F1) F3 H3 _ _ O' v t _ _ (r'.grow g3) w3 q' fun σ4 e4 O4 r4 q4 _ => ?_
      refine ⟨C.at F1, F3, e4, O4, _, r4, q4, ⟨fun σ F H e O r h => ⟨F, e, O, r, h⟩, fun σ F H e O r h => f1.nx σ F H e O r h, fun σ F H e O r h => ⟨F, e, O, r, h⟩, f1.rt, f1.ex⟩⟩
    · have e0 : i = l.length := by omega
      subst e0
      rw [List.drop_length] at q'
      exact .inl ⟨wk.stops F' H' r'.ext.f r'.ext.good, f1.nx _ F' H' _ O' r' q'⟩⟩
def rWhile (c : RT) (tb : RS) : RS := fun D e => ∃ I : Nat → Sl → Prop, (∃ n, I n e) ∧ ∀ n e, I n e → c e (fun b => if b = true then tb { D with nx := fun e' => ∃ m, m < n ∧ I m e', ct := fun e' => ∃ m, m < n ∧ I m e', bk := D.nx } e else D.nx e) D.ex
theorem sv_while {c : Expr} {body : List Stmt} {tc : RT} {tb : RS} {pos : Pos} (hp : PassesOwn (model X.prog X.w) X.A X.env X.xe) (hc : VT X W c tc) (hb : SVs X W body tb) : SV X W (.While c body [] pos) (rWhile tc tb) :=
  ⟨PS.imp (ps_while hp hc.run hb.run) fun D σ H ⟨C, F, e, O, R, r, ⟨I, ⟨n, hn⟩, turn⟩, f⟩ => by
    refine ⟨fun m σ' H' => ∃ F' e' O', Rel X.K C F' H' σ' e' O' ∧ I m e', ⟨n, F, e, O, r, hn⟩, ?_⟩
    rintro m σ' H' ⟨F', e', O', r', hm⟩
    refine ⟨C, F', e', O', _, _, r', turn m e' hm, fun b F2 H2 q2 g2 => ?_, f.exw r'⟩
    cases b with
    | true =>
      rw [if_pos rfl] at q2
      refine iteT ⟨fun σ3 H3 => ∃ m', m' < m ∧ ∃ F3 e3 O3, Rel X.K C F3 H3 σ3 e3 O3 ∧ I m' e3, fun σ3 H3 h => h, C, F2, e', O', _, r'.grow g2, q2, ?_⟩
      exact ⟨fun σ F H e O r h => let ⟨m', h1, h2⟩ := h; ⟨m', h1, F, e, O, r, h2⟩, fun σ F H e O r h => f.nx σ F H e O r h, fun σ F H e O r h => let ⟨m', h1, h2⟩ := h; ⟨m', h1, F, e, O, r, h2⟩, f.rt, f.ex⟩
    | false =>
      rw [if_neg Bool.false_ne_true] at q2
      exact iteF (f.nx σ' F2 H2 e' O' (r'.grow g2) q2)⟩
/-! ### a def -/
def startE (N : List Str) (args : List T) : Sl := args.map (fun t => some (.p t)) ++ List.replicate (N.length - args.length) none
def specOf (N : List Str) (n : Nat) (t : RS) : FSpec := fun args Q E => args.length = n ∧ t { nx := fun _ => Q (.p .non), rt := fun s _ => Q s, bk := fun _ => False, ct := fun _ => False, ex := E } (startE N args)
theorem start_rel {K : PySem.W.Frag} {pa : Addr} {F H : Hp} {vs : List V} {args : List T} {N : List Str} (g : Good K pa F H) (r : Rps K pa F vs args) : Rel K ⟨pa, F, H, [], (L2.start N vs).length⟩ F H (L2.start N vs) (startE N args) (fun _ => []) where
  ext := ⟨Same.refl _, fun b o h _ _ => h, fun b h => h, fun b o h => .inl h, g⟩
  num := rfl
  slot := fun i => by
    unfold L2.start startE
    have hl := r.length
    by_cases hi : i < vs.length
    · rw [List.getElem?_append_left (by rw [List.length_map]; exact hi), List.getElem?_append_left (by rw [List.length_map]; omega), List.getElem?_map, List.getElem?_map]
      obtain ⟨t, e1, w⟩ := r.getV (List.getElem?_eq_getElem hi)
      rw [List.getElem?_eq_getElem hi, e1]
      exact .val (.p w)
    · rw [List.getElem?_append_right (by rw [List.length_map]; omega), List.getElem?_append_right (by rw [List.length_map]; omega), List.length_map, List.length_map, hl]
      by_cases h2 : i - args.length < N.length - args.length
      · rw [List.getElem?_replicate, List.getElem?_replicate, if_pos h2, if_pos h2]
        exact .no
      · rw [List.getElem?_replicate, List.getElem?_replicate, if_neg h2, if_neg h2]
        exact .out
  nd := fun i => List.nodup_nil
  dj := fun i j a h => by simp at h
  own := fun i a h => by simp at h
theorem fn_ok {P : Program} {w : World} {K : PySem.W.Frag} {mg : Str → Option Value} {base : Heap} {x qual : Str} {st : Stmt} {f : Addr} {fd : FuncData} {N ps : List Str} {k : Nat} {t : RS} (Fn : Fun K x qual st f fd) (S : FnScope N ps (defScope st))
    (body : ∀ (cdv : Value) (A : Around) (outer : List Env) (s : Shared) (H : Hp) (E : XK), Room k (A.deeper (envOfC qual (defScope st) s.heap.objs.size f cdv)) →
      SVs (cxOf (L2.CX P w) P w K mg base N qual (defScope st) f cdv A outer s H E) (fun cls d _ H' => E cls d H') (defBody st) t) : FnOk P w K mg base (L2.CX P w) (k + 1) f fd ps (spOf K (specOf N ps.length t)) := by
  refine Fn.okX S (fun vs H Q E h => ?_) (fun cdv A outer s H vs Q E hr h => ?_)
  · obtain ⟨pa, F, args, Qt, Et, g, r, ⟨hl, _⟩, _⟩ := h
    rw [r.length, hl]
  · obtain ⟨pa, F, args, Qt, Et, g, r, ⟨hl, q⟩, k1, k2⟩ := h
    refine ⟨_, (body cdv A outer s H E hr).run, ⟨pa, F, H, [], _⟩, F, startE N args, fun _ => [], _, start_rel g r, q, ?_⟩
    have toGrow : ∀ {n : Nat} {F' H' : Hp}, Ext K ⟨pa, F, H, [], n⟩ F' H' → Grow K pa F H F' H' := fun {n F' H'} x => ⟨x.f, fun b o h n => x.keep b o h n (by simp), fun b o h => by
      rcases x.new b o h with z | z | z
      · exact .inl z
      · exact .inr z
      · simp at z, x.good⟩
    refine ⟨fun σ F' H' e O rl h => ?_, fun _ _ _ _ _ _ h => h.elim, fun _ _ _ _ _ _ h => h.elim, fun σ F' H' e v s ⟨O, L, rl, wo, nd, m⟩ h => ?_, fun σ F' H' y cls d x _ ex h => ?_⟩
    · exact k1 _ _ F' H' h (toGrow rl.ext) (.pure .non)
    · refine k1 s v F' H' h (toGrow rl.ext) ⟨L, wo, nd, fun a ha => ?_⟩
      obtain ⟨⟨m1, m2, m3⟩, _⟩ := m a ha
      rcases m3 with m3 | m3
      · exact ⟨m3, m1⟩
      · simp at m3
    · exact k2 y cls d F' H' h (toGrow x) ex
end
end TLY

/-! Tree layer, part 8: lists of one's own are changed. -/
namespace TLY
open PySem PySem.Spec PyProof.Rows L2
section
variable {K : PySem.W.Frag} {C : Ctx} {F H H' : Hp} {σ : L2.St} {e : Sl} {O : Nat → List Addr}
/-- what slot i owns is changed -/
theorem Rel.change (r : Rel K C F H σ e O) {i : Nat} {v : V} {s : S} {L : List Addr} (hi : i < e.length) (hv : σ[i]? = some (some v)) (w : Ow K C.pa F H' v s L) (nd : L.Nodup)
    (out : ∀ b o, b ∉ O i → H b = some o → H' b = some o) (sub : ∀ a ∈ L, a ∈ O i ∨ (Mine C F a ∧ ∀ j, a ∉ O j)) (dom : ∀ b, H' b = none → H b = none) :
    Rel K C F H' σ (e.set i (some s)) (fun j => if j = i then L else O j) := by
  have hF : ∀ b o, F b = some o → b ∉ O i := fun b o h hb => by
    rw [(r.own i b hb).1] at h; cases h
  have gd : Good K C.pa F H' := by
    refine ⟨fun b o h => out b o (hF b o h) (r.ext.good.sub b o h), ?_⟩
    obtain ⟨o1, q, ns, i', d, s', e1, r1⟩ := r.ext.good.pool
    exact ⟨o1, q, ns, i', d, s', out _ _ (fun hb => (r.own i _ hb).2.1 rfl) e1, r1⟩
  have hset : ∀ j, j ≠ i → (e.set i (some s))[j]? = e[j]? := fun j hj => List.getElem?_set_ne (Ne.symm hj)
  refine ⟨⟨r.ext.f, fun b o h n m => ?_, fun b h => r.ext.dom b (dom b h), r.ext.new, gd⟩, r.num, fun j => ?_, fun j => ?_, fun j k a h1 h2 => ?_, fun j a ha => ?_⟩
  · refine out b o (fun hb => ?_) (r.ext.keep b o h n m)
    rcases (r.own i b hb).2.2 with z | z
    · rw [z] at h; cases h
    · exact m z
  · by_cases hj : j = i
    · subst hj
      rw [if_pos rfl, hv, List.getElem?_set_self hi]
      exact .val w
    · rw [if_neg hj, hset j hj]
      have q := r.slot j
      have dj := r.dj
      generalize σ[j]? = x, e[j]? = y at q
      have ne : ∀ b ∈ O j, b ∉ O i := fun b h1 h2 => hj (r.dj j i b h1 h2)
      generalize O j = z at q ne
      cases q with
      | out => exact .out
      | no => exact .no
      | val w => exact .val (w.mono (Same.refl _) fun b hb o ho => out b o (ne b hb) ho)
  · by_cases hj : j = i
    · rw [if_pos hj]; exact nd
    · rw [if_neg hj]; exact r.nd j
  · have new : ∀ {j a}, a ∈ L → a ∈ O j → j ≠ i → False := fun {j a} h1 h2 hj => by
      rcases sub a h1 with z | z
      · exact hj (r.dj j i a h2 z)
      · exact z.2 j h2
    by_cases hj : j = i
    · by_cases hk : k = i
      · rw [hj, hk]
      · rw [if_pos hj] at h1; rw [if_neg hk] at h2; exact (new h1 h2 hk).elim
    · by_cases hk : k = i
      · rw [if_neg hj] at h1; rw [if_pos hk] at h2; exact (new h2 h1 hj).elim
      · rw [if_neg hj] at h1; rw [if_neg hk] at h2; exact r.dj j k a h1 h2
  · by_cases hj : j = i
    · rw [if_pos hj] at ha
      rcases sub a ha with z | z
      · exact r.own i a z
      · exact z.1
    · rw [if_neg hj] at ha; exact r.own j a ha
theorem upd_dom {a b : Addr} {o u : HO} (h : H a = some u) (n : upd H a o b = none) : H b = none := by
  by_cases e : b = a
  · subst e; rw [upd_same] at n; cases n
  · rw [upd_ne e] at n; exact n
/-- slot i's own list gets other items -/
theorem Rel.put1 (r : Rel K C F H σ e O) {i : Nat} {l : List T} (hs : e[i]? = some (some (.l1 l))) : ∃ a vs, σ[i]? = some (some (.ref a)) ∧ H a = some (.lst vs) ∧ Rps K C.pa F vs l ∧ a ≠ C.pa ∧
    ∀ vs' l', Rps K C.pa F vs' l' → ∃ O', Rel K C F (upd H a (.lst vs')) σ (e.set i (some (.l1 l'))) O' := by
  have hi : i < e.length := by
    rcases Nat.lt_or_ge i e.length with z | z
    · exact z
    · rw [List.getElem?_eq_none z] at hs; cases hs
  obtain ⟨v, h1, w⟩ := r.at hs
  have hO : ∃ a vs, v = .ref a ∧ O i = [a] ∧ H a = some (.lst vs) ∧ Rps K C.pa F vs l := by
    generalize O i = L at w
    cases w with
    | l1 q rr => exact ⟨_, _, rfl, rfl, q, rr⟩
  obtain ⟨a, vs, rfl, hO, q, rr⟩ := hO
  refine ⟨a, vs, h1, q, rr, (r.own i a (by rw [hO]; simp)).2.1, fun vs' l' r' => ⟨_, r.change (L := [a]) hi h1 (.l1 upd_same r') (by simp) (fun b o hb h => ?_) (fun b hb => .inl (by rw [hO]; exact hb)) fun b hb => upd_dom q hb⟩⟩
  rw [upd_ne fun z => hb (by rw [hO, z]; simp)]
  exact h
/-- slot i's rows: the outer list, each row -/
theorem Rel.put2 (r : Rel K C F H σ e O) {i : Nat} {ls : List (List T)} (hs : e[i]? = some (some (.l2 ls))) : ∃ a bs, σ[i]? = some (some (.ref a)) ∧ H a = some (.lst (bs.map V.ref)) ∧ Rows K C.pa F H bs ls ∧ O i = a :: bs ∧ a ≠ C.pa ∧ (∀ b ∈ bs, b ≠ C.pa) := by
  obtain ⟨v, h1, w⟩ := r.at hs
  have hn := fun b (hb : b ∈ O i) => (r.own i b hb).2.1
  generalize hL : O i = L at w hn
  cases w with
  | l2 q rr => exact ⟨_, _, h1, q, rr, rfl, hn _ List.mem_cons_self, fun b hb => hn b (List.mem_cons_of_mem _ hb)⟩
end
section
variable {K : PySem.W.Frag} {C : Ctx} {F H H' : Hp} {σ : L2.St} {e : Sl} {O : Nat → List Addr} {pa : Addr}
theorem Rows.upd_out {b : Addr} {o : HO} : ∀ {bs : List Addr} {ls : List (List T)}, Rows K pa F H bs ls → b ∉ bs → Rows K pa F (upd H b o) bs ls
  | _, _, .nil, _ => .nil
  | _, _, .cons h r t, n => .cons (by rw [upd_ne fun z => n (by rw [← z]; exact List.mem_cons_self)]; exact h) r (Rows.upd_out t fun z => n (List.mem_cons_of_mem _ z))
theorem Rows.set {b : Addr} {vs' : List V} {l' : List T} : ∀ {bs : List Addr} {ls : List (List T)} {j : Nat}, Rows K pa F H bs ls → bs.Nodup → bs[j]? = some b → Rps K pa F vs' l' → Rows K pa F (upd H b (.lst vs')) bs (ls.set j l')
  | _, _, _, .nil, _, e, _ => by simp at e
  | _, _, 0, .cons h r t, nd, e, r' => by
    simp at e
    subst e
    exact .cons upd_same r' (t.upd_out (List.nodup_cons.mp nd).1)
  | c :: bs, _, j + 1, .cons h r t, nd, e, r' => by
    have e : bs[j]? = some b := by simpa using e
    have hb : b ∈ bs := List.mem_of_getElem? e
    refine .cons ?_ r (Rows.set t (List.nodup_cons.mp nd).2 e r')
    rw [upd_ne fun z => (List.nodup_cons.mp nd).1 (by rw [z]; exact hb)]
    exact h
theorem Rows.append1 {b : Addr} {vs' : List V} {l' : List T} (hb : H b = some (.lst vs')) (r' : Rps K pa F vs' l') : ∀ {bs : List Addr} {ls : List (List T)}, Rows K pa F H bs ls → Rows K pa F H (bs ++ [b]) (ls ++ [l'])
  | _, _, .nil => .cons hb r' .nil
  | _, _, .cons h r t => .cons h r (Rows.append1 hb r' t)
theorem lt_of_some {α : Type} {e : List α} {i : Nat} {x : α} (h : e[i]? = some x) : i < e.length := (List.getElem?_eq_some_iff.mp h).1
/-- a row of slot i's rows gets other items -/
theorem Rel.putRow (r : Rel K C F H σ e O) {i : Nat} {ls : List (List T)} (hs : e[i]? = some (some (.l2 ls))) {j : Nat} {l : List T} (hj : ls[j]? = some l) : ∃ (a : Addr) (bs : List Addr) (b : Addr) (vs : List V), σ[i]? = some (some (.ref a)) ∧ H a = some (.lst (bs.map V.ref)) ∧ bs.length = ls.length ∧ bs[j]? = some b ∧ H b = some (.lst vs) ∧ Rps K C.pa F vs l ∧ b ≠ C.pa ∧ a ≠ C.pa ∧
    ∀ vs' l', Rps K C.pa F vs' l' → ∃ O', Rel K C F (upd H b (.lst vs')) σ (e.set i (some (.l2 (ls.set j l')))) O' := by
  obtain ⟨a, bs, h1, q, rr, hO, na, nb⟩ := r.put2 hs
  obtain ⟨b, vs, h2, h3, h4, h5⟩ := rr.get hj
  have nd : (a :: bs).Nodup := hO ▸ r.nd i
  refine ⟨a, bs, b, vs, h1, q, rr.length, h2, h4, h5, nb b h3, na, fun vs' l' r' => ⟨_, r.change (L := a :: bs) (lt_of_some hs) h1 (.l2 ?_ (rr.set (List.nodup_cons.mp nd).2 h2 r')) nd (fun c o hc h => ?_) (fun c hc => .inl (by rw [hO]; exact hc)) fun c hc => upd_dom h4 hc⟩⟩
  · rw [upd_ne fun z => (List.nodup_cons.mp nd).1 (by rw [z]; exact h3)]
    exact q
  · rw [upd_ne fun z => hc (by rw [hO, z]; exact List.mem_cons_of_mem _ h3)]
    exact h
end
section
variable {X : Cx} {W : WX}
/-! ### x.append(e) -/
def rApp (i : Nat) (t : RE) : RS := fun D e => match slotAt e i with
  | some (.l1 l) => t e (fun s => l.length < sizeLine ∧ D.nx (e.set i (some (.l1 (l ++ [s.fz]))))) D.ex
  | some (.l2 ls) => t e (fun s => match s with
    | .l1 l' => ls.length < sizeLine ∧ D.nx (e.set i (some (.l2 (ls ++ [l']))))
    | _ => False) D.ex
  | _ => False
theorem sv_app (i : Nat) {c : Expr} {t : RE} {pos : Pos} (hE : PE X c (tBM X.K "list" rAppend (tVar i) (tCons (liftV X.K W t) tNil))) (hs : swapsWith c none pos.line X.env = pure false := by rfl) : SV X W (.Expr c pos) (rApp i t) :=
  ⟨PS.imp (ps_expr hE hs) fun D σ H ⟨C, F, e, O, R, r, q, f⟩ => by
    unfold rApp at q
    split at q
    · rename_i l hs
      have hs := slotAt_some hs
      obtain ⟨a, vs, h1, h2, h3, h4, _⟩ := r.put1 hs
      refine ⟨.ref a, h1, .inl ⟨rfl, vs, .inl (.inl h2)⟩, C, F, e, O, _, _, r, q, fun s v F1 H1 ⟨hz, q1⟩ g1 w1 => ?_, f.exw r⟩
      obtain ⟨F2, g2, _, w2⟩ := w1.told r.ext.good g1
      obtain ⟨a', vs', k1, k2, k3, k4, k5⟩ := (r.grow g2).put1 hs
      have ea : a' = a := by
        rw [h1] at k1
        injection k1 with k1
        injection k1 with k1
        injection k1 with k1
        exact k1.symm
      subst ea
      obtain ⟨O', r'⟩ := k5 _ _ (k3.append (.one w2))
      exact ⟨a', vs', v, rfl, rfl, k2, by rw [k3.length]; exact hz, f.nx σ F2 _ _ O' r' q1⟩
    · rename_i ls hs
      have hs := slotAt_some hs
      obtain ⟨a, bs, h1, h2, h3, h4, h5, h6⟩ := r.put2 hs
      refine ⟨.ref a, h1, .inl ⟨rfl, _, .inl (.inl h2)⟩, C, F, e, O, _, _, r, q, fun s v F1 H1 q1 g1 w1 => ?_, f.exw r⟩
      split at q1
      · obtain ⟨hz, q1⟩ := q1
        obtain ⟨L, w, nd, n⟩ := w1
        cases w with
        | l1 hb hr =>
          rename_i l' b ws
          have nb := n b (by simp)
          have r1 := r.grow g1
          obtain ⟨a', bs', k1, k2, k3, k4, k5, k6⟩ := r1.put2 hs
          have ea : a' = a := by
            rw [h1] at k1
            injection k1 with k1
            injection k1 with k1
            injection k1 with k1
            exact k1.symm
          subst ea
          have inO : ∀ c ∈ a' :: bs', c ∈ O i := fun c hc => by rw [k4]; exact hc
          have bO : b ∉ O i := fun hb' => by
            obtain ⟨o, qq⟩ := (r.slot i).there b hb'
            rw [nb.1] at qq; cases qq
          have ndO : (a' :: bs').Nodup := k4 ▸ r1.nd i
          have ab : b ≠ a' := fun z => bO (by rw [k4, z]; simp)
          have e1 : (upd H1 a' (.lst ((bs' ++ [b]).map V.ref))) b = some (.lst ws) := by rw [upd_ne ab]; exact hb
          have rw1 : Rows X.K C.pa F1 (upd H1 a' (.lst ((bs' ++ [b]).map V.ref))) (bs' ++ [b]) (ls ++ [l']) := Rows.append1 e1 hr (k3.upd_out (List.nodup_cons.mp ndO).1)
          have r2 := r1.change (s := .l2 (ls ++ [l'])) (L := a' :: (bs' ++ [b])) (lt_of_some hs) k1 (.l2 upd_same rw1) ?_ (fun c o hc hh => ?_) (fun c hc => ?_) fun c hc => upd_dom k2 hc
          · refine ⟨a', _, .ref b, rfl, rfl, k2, by rw [List.length_map, k3.length]; exact hz, ?_⟩
            have := f.nx σ F1 _ _ _ r2 q1
            rw [List.map_append] at this
            exact this
          · rw [List.nodup_cons] at ndO ⊢
            refine ⟨fun z => ?_, ?_⟩
            · rcases List.mem_append.mp z with z | z
              · exact ndO.1 z
              · exact ab (List.mem_singleton.mp z).symm
            · rw [List.nodup_append]
              refine ⟨ndO.2, by simp, fun c hc d hd z => ?_⟩
              obtain rfl : d = b := by simpa using hd
              exact bO (inO d (List.mem_cons_of_mem _ (z ▸ hc)))
          · rw [upd_ne fun z => hc (by rw [z]; exact inO a' (by simp))]
            exact hh
          · rcases List.mem_cons.mp hc with rfl | hc
            · exact .inl (inO c (by simp))
            · rcases List.mem_append.mp hc with hc | hc
              · exact .inl (inO c (List.mem_cons_of_mem _ hc))
              · obtain rfl : c = b := by simpa using hc
                refine .inr ⟨⟨nb.2, r.ext.good.ne nb.1, .inl (r.ext.dom c nb.1)⟩, fun j hj => ?_⟩
                obtain ⟨o, qq⟩ := (r.slot j).there c hj
                rw [nb.1] at qq; cases qq
      · exact q1.elim
    · exact q.elim⟩
/-! ### x[k].append(e) -/
def rAppRow (i : Nat) (tk t : RE) : RS := fun D e => match slotAt e i with
  | some (.l2 ls) => tk e (fun k => match k with
    | .p (.int z) => ∃ l, atI ls z = some l ∧ t e (fun s => l.length < sizeLine ∧ ∃ j, ixN ls.length z = some j ∧ D.nx (e.set i (some (.l2 (ls.set j (l ++ [s.fz])))))) D.ex
    | _ => False) D.ex
  | _ => False
theorem ref_inj {σ : L2.St} {i : Nat} {a b : Addr} (h : σ[i]? = some (some (.ref a))) (k : σ[i]? = some (some (.ref b))) : b = a := by
  rw [h] at k
  injection k with k
  injection k with k
  injection k with k
  exact k.symm
theorem atI_get {α : Type} {l : List α} {z : Int} {j : Nat} {x : α} (h : ixN l.length z = some j) (e : atI l z = some x) : l[j]? = some x := by
  unfold L2.atI at e
  rw [h] at e
  exact e
theorem atI_ix {α : Type} {l : List α} {z : Int} {x : α} (e : atI l z = some x) : ∃ j, ixN l.length z = some j ∧ l[j]? = some x := by
  unfold L2.atI at e
  cases h : ixN l.length z with
  | none => rw [h] at e; cases e
  | some j => rw [h] at e; exact ⟨j, rfl, e⟩
theorem atI_of {α : Type} {l : List α} {z : Int} {j : Nat} {x : α} (h : ixN l.length z = some j) (e : l[j]? = some x) : atI l z = some x := by
  unfold L2.atI
  rw [h]
  exact e
theorem sv_appRow (i : Nat) {c : Expr} {tk t : RE} {pos : Pos} (hE : PE X c (tBM X.K "list" rAppend (tOp (rIxL X.K) (tVar i) (liftB X.K W tk)) (tCons (liftV X.K W t) tNil))) (hs : swapsWith c none pos.line X.env = pure false := by rfl) : SV X W (.Expr c pos) (rAppRow i tk t) :=
  ⟨PS.imp (ps_expr hE hs) fun D σ H ⟨C, F, e, O, R, r, q, f⟩ => by
    unfold rAppRow at q
    split at q
    · rename_i ls hs
      have hs := slotAt_some hs
      obtain ⟨a, bs, h1, h2, h3, _⟩ := r.put2 hs
      refine ⟨.ref a, h1, C, F, e, O, _, _, r, q, fun s v F1 H1 q1 g1 w1 => ?_, f.exw r⟩
      split at q1
      · obtain ⟨l, e1, q1⟩ := q1
        obtain rfl := w1.int
        obtain ⟨j, ej, el⟩ := atI_ix e1
        have r1 := r.grow g1
        obtain ⟨a1, bs1, b1, vs1, k1, k2, k3, k4, k5, k6, k7, k8, _⟩ := r1.putRow hs el
        obtain rfl := ref_inj h1 k1
        refine ⟨a1, bs1.map V.ref, _, .ref b1, rfl, rfl, .inl (.inl k2), atI_of (by rw [List.length_map, k3]; exact ej) (by rw [List.getElem?_map, k4]; rfl), .inl ⟨rfl, vs1, .inl (.inl k5)⟩, ?_⟩
        refine ⟨C, F1, e, O, _, _, r1, q1, fun s2 v2 F2 H2 ⟨hz, j', ej', q2⟩ g2 w2 => ?_, f.exw r1⟩
        obtain rfl : j' = j := by rw [ej] at ej'; exact (Option.some.inj ej').symm
        obtain ⟨F3, g3, _, w3⟩ := w2.told r1.ext.good g2
        have r3 := r1.grow g3
        obtain ⟨a3, bs3, b3, vs3, m1, m2, m3, m4, m5, m6, m7, m8, m9⟩ := r3.putRow hs el
        obtain rfl := ref_inj h1 m1
        have eb : b3 = b1 := by
          have z := g3.keep _ _ k2 k8
          rw [m2] at z
          have z2 : bs3.map V.ref = bs1.map V.ref := HO.lst.inj (Option.some.inj z)
          have z3 : (bs3.map V.ref)[j']? = (bs1.map V.ref)[j']? := by rw [z2]
          rw [List.getElem?_map, List.getElem?_map, m4, k4] at z3
          exact V.ref.inj (Option.some.inj z3)
        subst eb
        obtain ⟨O', r'⟩ := m9 _ _ (m6.append (.one w3))
        exact ⟨b3, vs3, v2, rfl, rfl, m5, by rw [m6.length]; exact hz, f.nx σ F3 _ _ O' r' q2⟩
      · exact q1.elim
    · exact q.elim⟩
/-! ### x[k] = e, x[i][k] = e -/
def rSt1 (i : Nat) (tk t : RE) : RS := fun D e => match slotAt e i with
  | some (.l1 l) => t e (fun s => tk e (fun k => match k with
    | .p (.int z) => ∃ j, ixN l.length z = some j ∧ D.nx (e.set i (some (.l1 (l.set j s.fz))))
    | _ => False) D.ex) D.ex
  | _ => False
theorem sv_st1 (i : Nat) {tg a : Expr} {tk t : RE} {pos : Pos} (h : VE X W a t) (hg : PG X tg (gSub (tVar i) (liftB X.K W tk) rSetL)) (hs : swapsWithSole [tg] a pos.line X.env = pure false := by rfl) (hw : swappedStores [tg] a X.env = pure none := by rfl)
    (h1 : (assignEach [tg] X.env).map (·.2) = [assign tg X.env] := by rfl) : SV X W (.Assign [tg] a pos) (rSt1 i tk t) :=
  ⟨PS.imp (ps_asg h.run hg hs hw h1) fun D σ H ⟨C, F, e, O, R, r, q, f⟩ => by
    unfold rSt1 at q
    split at q
    · rename_i l hs
      have hs := slotAt_some hs
      refine ⟨C, F, e, O, _, _, r, q, fun s v F1 H1 q1 g1 w1 => ?_, f.exw r⟩
      obtain ⟨F2, g2, _, w2⟩ := w1.told r.ext.good g1
      have r2 := r.grow g2
      obtain ⟨a, vs, h1, _⟩ := r2.put1 hs
      refine ⟨.ref a, h1, C, F2, e, O, _, _, r2, q1, fun k v2 F3 H3 q3 g3 w3 => ?_, f.exw r2⟩
      have r3 := r2.grow g3
      split at q3
      · obtain ⟨j, ej, q3⟩ := q3
        obtain rfl := w3.int
        obtain ⟨a', vs', k1, k2, k3, k4, k5⟩ := r3.put1 hs
        obtain rfl := ref_inj h1 k1
        obtain ⟨O', r'⟩ := k5 _ _ (k3.set j (w2.mono g3.f))
        exact ⟨a', vs', _, j, rfl, rfl, k2, by rw [k3.length]; exact ej, f.nx σ F3 _ _ O' r' q3⟩
      · exact q3.elim
    · exact q.elim⟩
def rSt2 (i : Nat) (ta tb t : RE) : RS := fun D e => match slotAt e i with
  | some (.l2 ls) => t e (fun s => ta e (fun y => match y with
    | .p (.int z) => ∃ l j, ixN ls.length z = some j ∧ ls[j]? = some l ∧ tb e (fun k => match k with
      | .p (.int z') => ∃ j', ixN l.length z' = some j' ∧ D.nx (e.set i (some (.l2 (ls.set j (l.set j' s.fz)))))
      | _ => False) D.ex
    | _ => False) D.ex) D.ex
  | _ => False
theorem sv_st2 (i : Nat) {tg a : Expr} {ta tb t : RE} {pos : Pos} (h : VE X W a t) (hg : PG X tg (gSub (tOp (rIxL X.K) (tVar i) (liftB X.K W ta)) (liftB X.K W tb) rSetL)) (hs : swapsWithSole [tg] a pos.line X.env = pure false := by rfl) (hw : swappedStores [tg] a X.env = pure none := by rfl)
    (h1 : (assignEach [tg] X.env).map (·.2) = [assign tg X.env] := by rfl) : SV X W (.Assign [tg] a pos) (rSt2 i ta tb t) :=
  ⟨PS.imp (ps_asg h.run hg hs hw h1) fun D σ H ⟨C, F, e, O, R, r, q, f⟩ => by
    unfold rSt2 at q
    split at q
    · rename_i ls hs
      have hs := slotAt_some hs
      refine ⟨C, F, e, O, _, _, r, q, fun s v F1 H1 q1 g1 w1 => ?_, f.exw r⟩
      obtain ⟨F2, g2, _, w2⟩ := w1.told r.ext.good g1
      have r2 := r.grow g2
      obtain ⟨a, bs, h1, _⟩ := r2.put2 hs
      refine ⟨.ref a, h1, C, F2, e, O, _, _, r2, q1, fun y vy F3 H3 q3 g3 w3 => ?_, f.exw r2⟩
      have r3 := r2.grow g3
      split at q3
      · obtain ⟨l, j, ej, el, q3⟩ := q3
        obtain rfl := w3.int
        obtain ⟨a1, bs1, b1, vs1, k1, k2, k3, k4, k5, k6, k7, k8, _⟩ := r3.putRow hs el
        obtain rfl := ref_inj h1 k1
        refine ⟨a1, bs1.map V.ref, _, .ref b1, rfl, rfl, .inl (.inl k2), atI_of (by rw [List.length_map, k3]; exact ej) (by rw [List.getElem?_map, k4]; rfl), C, F3, e, O, _, _, r3, q3, fun k v4 F4 H4 q4 g4 w4 => ?_, f.exw r3⟩
        have r4 := r3.grow g4
        split at q4
        · obtain ⟨j', ej', q4⟩ := q4
          obtain rfl := w4.int
          obtain ⟨a3, bs3, b3, vs3, m1, m2, m3, m4, m5, m6, m7, m8, m9⟩ := r4.putRow hs el
          obtain rfl := ref_inj h1 m1
          have eb : b3 = b1 := by
            have z := g4.keep _ _ k2 k8
            rw [m2] at z
            have z2 : bs3.map V.ref = bs1.map V.ref := HO.lst.inj (Option.some.inj z)
            have z3 : (bs3.map V.ref)[j]? = (bs1.map V.ref)[j]? := by rw [z2]
            rw [List.getElem?_map, List.getElem?_map, m4, k4] at z3
            exact V.ref.inj (Option.some.inj z3)
          subst eb
          obtain ⟨O', r'⟩ := m9 _ _ (m6.set j' ((w2.mono g3.f).mono g4.f))
          exact ⟨b3, vs3, _, j', rfl, rfl, m5, by rw [m6.length]; exact ej', f.nx σ F4 _ _ O' r' q4⟩
        · exact q4.elim
      · exact q3.elim
    · exact q.elim⟩
end
end TLY

/-! Tree layer, part 9: exceptions. -/
namespace TLY
open PySem PySem.Spec PyProof.Rows L2
section
variable {X : Cx} {W : WX}
/-- raise X('..') of an own class without fields -/
def rRaise (C : Addr) : RS := fun D _ => D.ex ⟨C, []⟩
theorem sv_raise {e : Expr} {C : Addr} {t : L2.St → Hp → XK → Prop} {pos : Pos} (hc : X.calm = true) (tk : Takes X W) (he : PMk X e t) (ht : ∀ σ H (Q : XK), Q (.ref C) none H → t σ H Q) : SV X W (.Raise (some e) none pos) (rRaise C) :=
  ⟨PS.imp (ps_raise hc tk he) fun D σ H ⟨C', F, e, O, R, r, q, f⟩ => ht σ H _ (f.ex σ F H _ _ _ r.ext r.num ⟨rfl, .inl ⟨rfl, rfl⟩⟩ q)⟩
/-! ### what a suite says of the exception that it holds -/
/-- e, asked in a suite that holds the exception y: the tree t for which g y t -/
structure EE (X' : Cx) (i : Nat) (a : Addr) (cls : Value) (d : Option Addr) (e : Expr) (g : Ex → T → Prop) : Prop where
  run : PE X' e (fun σ H Q => ∃ pa F y t, σ[i]? = some (some (.ref a)) ∧ Good X'.K pa F H ∧ ExR X'.K pa F H y cls d ∧ g y t ∧ ∀ v F' H', Grow X'.K pa F H F' H' → Rp X'.K pa F' v t → Q v H')
theorem ExR.grow {K : PySem.W.Frag} {pa : Addr} {F H F' H' : Hp} {y : Ex} {cls : Value} {d : Option Addr} (g : Grow K pa F H F' H') (hpa : ∃ ws, H pa = some (.lst ws)) (h : ExR K pa F H y cls d) : ExR K pa F' H' y cls d := by
  obtain ⟨h1, h2⟩ := h
  refine ⟨h1, ?_⟩
  rcases h2 with h2 | ⟨dd, ws, ne, e1, e2, fl⟩
  · exact .inl h2
  · obtain ⟨zs, hz⟩ := hpa
    refine .inr ⟨dd, ws, ne, e1, g.keep _ _ e2 fun z => ?_, ?_⟩
    · rw [z, hz] at e2; cases e2
    · have : ∀ {ws : List (Str × V)} {fs : List (Str × T)}, Flds K pa F ws fs → Flds K pa F' ws fs := by
        intro ws fs fl
        induction fl with
        | nil => exact .nil
        | cons w _ ih => exact .cons (w.mono g.f) ih
      exact this fl
theorem Good.lst {K : PySem.W.Frag} {pa : Addr} {F H : Hp} (g : Good K pa F H) : ∃ ws, H pa = some (.lst ws) := by
  obtain ⟨_, q, ns, i, d, s, e, _⟩ := g.pool
  exact ⟨_, e⟩
section
variable {i : Nat} {a : Addr} {cls : Value} {d : Option Addr} {oe : Obj} {pn : List (Addr × Obj)}
theorem ee_con {X' : Cx} {e : Expr} {v : V} {t : T} (h : PE X' e (tC v)) (w : ∀ K pa F, Rp K pa F v t) : EE X' i a cls d e (fun _ u => u = t) :=
  ⟨PE.imp h fun σ H Q ⟨pa, F, y, u, hs, g, ex, e1, k⟩ => by
    subst e1
    exact k v F H (.refl g) (w _ _ _)⟩
/-- isinstance(err, C) -/
theorem ee_isi {c : Expr} {cv : Value} {p p2 pos : Pos} {n : Str} {vc : V} (hz : Zc cls d oe) (hf : ∃ vs, oe.data = .fields vs)
    (hv : PE (X.suite a ((a, oe) :: pn)) (.Name n p2) (tVar i)) (hc : PE (X.suite a ((a, oe) :: pn)) c (tC vc)) (hcv : ∀ u, RelV vc u → u = cv) (hm : X.mg "isinstance" = none) (hg : Gl (X.suite a ((a, oe) :: pn)) "isinstance" := by rfl)
    (h1 : starEach [.Name n p2, c] X.env = (false, eval (.Name n p2) X.env) :: starEach [c] X.env := by rfl) (h2 : starEach [c] X.env = (false, eval c X.env) :: starEach [] X.env := by rfl) (h3 : (backTo pos (starEach [c] X.env)).any (·.1) = false := by rfl) :
    EE (X.suite a ((a, oe) :: pn)) i a cls d (.Call (.Name "isinstance" p) [.Name n p2, c] [] pos) (fun y t => y.fs = [] ∧ ExcC X.K y.cls ∧ ∃ b, PySem.W.kitOne X.K (.ref y.cls) cv = some b ∧ t = .bl b) := by
  refine ⟨⟨fun pins s σ H Q I h => ?_⟩⟩
  obtain ⟨pa, F, y, u, hs, g, ex, ⟨hy, hC, b, hb, rfl⟩, k⟩ := h
  have ec : cls = .ref y.cls := ex.1
  subst ec
  obtain rfl : d = none := by
    rcases ex.2 with z | ⟨_, _, z, _⟩
    · exact z.2
    · exact absurd hy z
  exact (pe_callB (call_isE hC hz hf) hg hm (by decide +kernel) (pa_cons hv (pa_cons hc pa_nil h2) h1) (by decide) (by decide) h1 h3).run pins s σ H Q I
    ⟨.ref a, hs, vc, cv, b, rfl, hcv, hb, k _ F H (.refl g) (.bl b)⟩
end
/-! ### try: body / except C as n: return e -/
/-- what the clause does: the exception's class is asked, then e is handed back -/
def rTry1 (K : PySem.W.Frag) (c : Value) (g : Ex → T → Prop) (i : Nat) (t : RS) : RS := fun D e => i < e.length ∧ t { D with ex := fun y => ∃ b, PySem.W.exmOne K (.ref y.cls) c = some b ∧ (b = true → ∃ u, g y u ∧ ∀ e', D.rt (.p u) e') ∧ (b = false → D.ex y) } e
theorem rel_none {K : PySem.W.Frag} {C : Ctx} {F H : Hp} {σ : L2.St} (x : Ext K C F H) (n : σ.length = C.n) : Rel K C F H σ (List.replicate σ.length none) (fun _ => []) where
  ext := x
  num := n
  slot := fun i => by
    by_cases h : i < σ.length
    · rw [List.getElem?_replicate, if_pos h, List.getElem?_eq_getElem h]
      exact .no
    · rw [List.getElem?_replicate, if_neg h, List.getElem?_eq_none (by omega)]
      exact .out
  nd := fun _ => List.nodup_nil
  dj := fun _ _ _ h => by simp at h
  own := fun _ _ h => by simp at h
theorem sv_try1 (i : Nat) {x n : Str} {c : Value} {body : List Stmt} {t : RS} {a0 : Expr} {g : Ex → T → Prop} {np pos pos' rp : Pos} (hs : X.stack = X.env :: X.outer) (hf : X.env.frame = some X.env.locals) (hN : X.N.Nodup) (hc : Names X x c) (tk : Takes X W)
    (hb : ∀ (W' : WX) (pn : List (Addr × Obj)) (xe : Value → Shared → Prop), Takes (X.tr pn xe) W' → PassesOwn (model X.prog X.w) X.A X.env xe → SVs (X.tr pn xe) W' body t)
    (hsu : ∀ (a : Addr) (oe : Obj) (cls : Value) (d : Option Addr) (pn : List (Addr × Obj)), Zc cls d oe → (∃ vs, oe.data = .fields vs) → EE (X.suite a ((a, oe) :: pn)) i a cls d a0 g)
    (hi : X.N[i]? = some n := by rfl) (hln : X.env.kindOf n = some .local := by rfl) :
    SV X W (.Try body [.ExceptHandler (some (.Name x np)) (some n) [.Return (some a0) rp] pos'] [] [] pos) (rTry1 X.K c g i t) := by
  refine ⟨PS.imp (ps_try_as (i := i) (tb := fun W' => liftS X.K W' t) (ts := fun a cls d => tRet (fun σ H Q => ∃ pa F y t, σ[i]? = some (some (.ref a)) ∧ Good X.K pa F H ∧ ExR X.K pa F H y cls d ∧ g y t ∧ ∀ v F' H', Grow X.K pa F H F' H' → Rp X.K pa F' v t → Q v H')) hs hf hN hi hln hc tk (fun W' pn xe h1 h2 => (hb W' pn xe h1 h2).run) (fun a oe cls d pn hz hfl => pss_one (ps_ret (hsu a oe cls d pn hz hfl).run))) fun D σ H ⟨C, F, e, O, R, r, ⟨hlen, q⟩, f⟩ => ?_⟩
  refine ⟨C, F, e, O, _, r, q, ⟨f.nx, f.bk, f.ct, f.rt, fun σ' F' H' y cls d ext num ex hq => ?_⟩⟩
  obtain ⟨b, hb1, h1, h2⟩ := hq
  have ec : cls = .ref y.cls := ex.1
  subst ec
  refine ⟨b, hb1, fun hbt a ha => ?_, fun hbf => f.ex σ' F' H' y _ d ext num ex (h2 hbf)⟩
  obtain ⟨u, gu, rt⟩ := h1 hbt
  have hi' : i < σ'.length := by rw [num, ← r.num, r.len]; exact hlen
  refine ⟨C.pa, F', y, u, List.getElem?_set_self hi', ext.good, ex, gu, fun v F2 H2 g2 w2 => ?_⟩
  exact f.rt σ' F2 H2 _ v _ ⟨_, [], rel_none (ext.grow g2) num, .p w2, by simp, by simp⟩ (rt _)
end
end TLY

/-! Tree layer, part 10: what a printed body names. -/
namespace TLY
open PySem PySem.Spec PyProof.Rows L2
def fSub (x y : S) (Q : S → Prop) : Prop := fI0 (fun i j => .int (i - j)) x y Q
def fDiv (x y : S) (Q : S → Prop) : Prop := fI CDivW (fun i j => .int (i / j)) x y Q
def fMod (x y : S) (Q : S → Prop) : Prop := fI (fun _ j => 0 < j) (fun i j => .int (i % j)) x y Q
def fPow (x y : S) (Q : S → Prop) : Prop := fI CPow (fun i j => .int (i ^ j.toNat)) x y Q
def fLt (x y : S) (Q : S → Prop) : Prop := fI0 (fun i j => .bl (decide (i < j))) x y Q
def fLe (x y : S) (Q : S → Prop) : Prop := fI0 (fun i j => .bl (decide (i ≤ j))) x y Q
def fGt (x y : S) (Q : S → Prop) : Prop := fI0 (fun i j => .bl (decide (j < i))) x y Q
def fGe (x y : S) (Q : S → Prop) : Prop := fI0 (fun i j => .bl (decide (j ≤ i))) x y Q
section
variable {X : Cx} {W : WX} {a b : Expr} {ta tb : RE} {pos : Pos}
theorem ve_add (ha : BE X W a ta) (hb : BE X W b tb) : VE X W (.BinOp a .Add b pos) (rOp fAdd ta tb) := ve_op op_addA opT_add ha hb
theorem ve_sub (ha : BE X W a ta) (hb : BE X W b tb) : VE X W (.BinOp a .Sub b pos) (rOp fSub ta tb) := ve_op op_sub (opT_I0 fun _ _ _ _ _ => .int _) ha hb
theorem ve_mul (ha : BE X W a ta) (hb : BE X W b tb) : VE X W (.BinOp a .Mult b pos) (rOp fMul ta tb) := ve_op op_mulA opT_mul ha hb
theorem ve_div (ha : BE X W a ta) (hb : BE X W b tb) : VE X W (.BinOp a .FloorDiv b pos) (rOp fDiv ta tb) := ve_op op_fdivW (opT_I fun _ _ _ _ _ => .int _) ha hb
theorem ve_mod (ha : BE X W a ta) (hb : BE X W b tb) : VE X W (.BinOp a .Mod b pos) (rOp fMod ta tb) := ve_op op_mod (opT_I fun _ _ _ _ _ => .int _) ha hb
theorem ve_pow (ha : BE X W a ta) (hb : BE X W b tb) : VE X W (.BinOp a .Pow b pos) (rOp fPow ta tb) := ve_op op_pow (opT_I fun _ _ _ _ _ => .int _) ha hb
/-- the six comparisons, `is None`: the rule by values and by trees -/
structure CmpT (X : Cx) (op : CmpOp) (f : S → S → (S → Prop) → Prop) where
  r : V → V → Hp → VK → Prop
  ho : OpR X (compareOp op) r
  o : OpT X.K r f
def cLt : CmpT X .Lt fLt := ⟨_, op_lt, opT_I0 fun _ _ _ _ _ => .bl _⟩
def cLe : CmpT X .LtE fLe := ⟨_, op_le, opT_I0 fun _ _ _ _ _ => .bl _⟩
def cGt : CmpT X .Gt fGt := ⟨_, op_gt, opT_I0 fun _ _ _ _ _ => .bl _⟩
def cGe : CmpT X .GtE fGe := ⟨_, op_ge, opT_I0 fun _ _ _ _ _ => .bl _⟩
def cEq (hu : X.A.units + 64 < cLine) : CmpT X .Eq fEq := ⟨_, op_eq.or (op_eqD hu), opT_eq⟩
def cNe (hu : X.A.units + 64 < cLine) : CmpT X .NotEq fNe := ⟨_, op_ne.or (op_neD hu), opT_ne⟩
def cIs : CmpT X .Is fIsN := ⟨_, op_isN, opT_isN⟩
def cIsNot : CmpT X .IsNot fNotN := ⟨_, op_notN, opT_notN⟩
theorem ve_c {op : CmpOp} {f : S → S → (S → Prop) → Prop} (c : CmpT X op f) (ha : BE X W a ta) (hb : BE X W b tb) (hm : behindInMarks op b = false := by first | rfl | exact nomark _) : VE X W (.Compare a [op] [b] pos) (rOp f ta tb) := ve_cmp c.ho c.o ha hb hm
theorem vt_c {op : CmpOp} {f : S → S → (S → Prop) → Prop} (c : CmpT X op f) (ha : BE X W a ta) (hb : BE X W b tb) (hm : behindInMarks op b = false := by first | rfl | exact nomark _) : VT X W (.Compare a [op] [b] pos) (tOpT f ta tb) := vt_cmp c.ho c.o ha hb hm
theorem ve_cc {op op' : CmpOp} {f f' : S → S → (S → Prop) → Prop} {d : Expr} {td : RE} (c : CmpT X op f) (c' : CmpT X op' f') (ha : BE X W a ta) (hb : BE X W b tb) (hd : BE X W d td) (hm : lastMarks [op, op'] [b, d] = false := by first | rfl | exact nomark _) : VE X W (.Compare a [op, op'] [b, d] pos) (rChain f f' ta tb td) := ve_chain c.ho c.o c'.ho c'.o ha hb hd hm
theorem vt_cc {op op' : CmpOp} {f f' : S → S → (S → Prop) → Prop} {d : Expr} {td : RE} (c : CmpT X op f) (c' : CmpT X op' f') (ha : BE X W a ta) (hb : BE X W b tb) (hd : BE X W d td) (hm : lastMarks [op, op'] [b, d] = false := by first | rfl | exact nomark _) : VT X W (.Compare a [op, op'] [b, d] pos) (tChT f f' ta tb td) := vt_chain c.ho c.o c'.ho c'.o ha hb hd hm
/-- a constant of the module -/
theorem ve_gint {x : Str} {i : Int} {t : Tok} (hm : X.mg x = some (.int i t)) (hg : Gl X x := by rfl) (hd : (x == ("__debug__" : Str)) = false := by decide) : VE X W (.Name x pos) (rC (.int i)) := PE.con (pe_glob (v := .int i) hg hm ⟨_, rfl⟩ (hd := hd)) fun _ _ _ => .int i
theorem ve_dct : VE X W (.Dict [] [] pos) (rC .dct) := ⟨PE.imp pe_dnewK fun σ H Q ⟨C, F, e, O, Qt, Et, r, q, k, x⟩ p hp => k _ _ _ _ q (.laidF r.ext.good hp) (.pure (.dct upd_same))⟩
end
/-- a def of the text as it stands behind the top -/
structure DefAt (K : PySem.W.Frag) (mg : Str → Option Value) (x : Str) (st : Stmt) (ps : List Str) where
  f : Addr
  fd : FuncData
  F : Fun K x x st f fd
  g : mg x = some (.ref f)
  b : Binds K fd ps []
section
variable {X : Cx} {W : WX}
theorem ve_u {k : Nat} {x : Str} {st : Stmt} {ps : List Str} {sp : FSpec} {p pos : Pos} {e : Expr} {es : List Expr} {t : RF} (D : DefAt X.K X.mg x st ps) (tk : Takes X W) (hr : Room k X.A) (G : FnOk X.prog X.w X.K X.mg X.base (L2.CX X.prog X.w) k D.f D.fd ps (spOf X.K sp))
    (ha : FA X W (e :: es) t) (hg : Gl X x := by rfl) (hdb : (x == ("__debug__" : Str)) = false := by decide) (he : starEach (e :: es) X.env = (false, eval e X.env) :: starEach es X.env := by rfl) (hpl : (backTo pos (starEach es X.env)).any (·.1) = false := by rfl) :
    VE X W (.Call (.Name x p) (e :: es) [] pos) (rCallU sp t) := ve_callU tk G hr D.g D.F.kp D.b ha hg hdb he hpl
theorem pe_bltn_ty {x : Str} {n : String} {p : Pos} (hm : X.mg x = none) (hv : bootBuiltins x = some (.type n)) (hg : Gl X x := by rfl) (hn : x ≠ ("__name__" : Str) := by decide) (hdb : (x == ("__debug__" : Str)) = false := by decide) : PE X (.Name x p) (tC (.ty n)) := pe_bltn (v := .ty n) hg hm hv rfl (hn := hn) (hd := hdb)
end
end TLY

/-! Tree layer, part 11: what the top has written: defs, classes of errors, constants. -/
namespace TLY
open PySem PySem.Spec PyProof.Rows L2
theorem defAt_mk {K : PySem.W.Frag} {h : Heap} {mg : Str → Option Value} {x : Str} {st : Stmt} {ps : List Str} {f : Addr} {od an : Option Addr} {sl : Array (Option Value)} {oc kV dc pm cd ct : Value} (X : K.In h) (G : h.Ns mainGlobals mg)
    (b : ∀ (kV doc pm : Value) (an : Option Addr) (cdv ct : Value) (us : List Value), us.length = ps.length → bindArgs (PySem.W.fnOf x x (defArgs st) (defBody st) (defScope st) .none kV doc pm an cdv ct) ⟨us, []⟩ = pure (ps.zip us))
    (a : PySem.W.nsIn K mainGlobals x = some (some (.ref f))) (l : K.lookup f = some ⟨oc, od, .func (PySem.W.fnOf x x (defArgs st) (defBody st) (defScope st) .none kV dc pm an cd ct), sl⟩) (c : PySem.W.codeIn K cd x = true) (k : PySem.W.keepIn K (.ref f) = true) : Nonempty (DefAt K mg x st ps) :=
  have Fn := fun_mk (st := st) l c k
  ⟨⟨f, _, Fn, PySem.W.mg_of X G a, Fn.binds b⟩⟩
/-- an own class of errors over ValueError without an __init__ of its own -/
structure ExcAt (K : PySem.W.Frag) (mg : Str → Option Value) (x : Str) where
  C : Addr
  g : mg x = some (.ref C)
  q : PySem.W.excIn K C [.type "ValueError", .type "Exception", .type "BaseException", .type "object"] "ValueError.__new__" = true
  kp : PySem.W.keepIn K (.ref C) = true
  sb : PySem.W.subIn K (.ref C) (.type "BaseException") = some true
  tp : PySem.W.typeIn K (.ref C) = some (.type "type")
  ic : ExcC K C
theorem ExcAt.pmk {X : Cx} {x m : Str} {j : Nat} {p p2 pos : Pos} (k : ExcAt X.K X.mg x) (hg : Gl X x := by rfl) (hdb : (x == ("__debug__" : Str)) = false := by decide) : PMk X (.Call (.Name x p) [.Constant (.str m) j p2] [] pos) (fun _ H Q => Q (.ref k.C) none H) :=
  pmk_own PySem.F.excBase_ValueError k.q k.g k.kp (raises_own k.sb k.tp) hg hdb
theorem excAt_mk {K : PySem.W.Frag} {h : Heap} {mg : Str → Option Value} {x : Str} {C : Addr} (X : K.In h) (G : h.Ns mainGlobals mg) (a : PySem.W.nsIn K mainGlobals x = some (some (.ref C)))
    (q : PySem.W.excIn K C [.type "ValueError", .type "Exception", .type "BaseException", .type "object"] "ValueError.__new__" = true) (kp : PySem.W.keepIn K (.ref C) = true) (sb : PySem.W.subIn K (.ref C) (.type "BaseException") = some true) (tp : PySem.W.typeIn K (.ref C) = some (.type "type"))
    (h1 : PySem.W.findIn K (.ref C) "__getattribute__" = some (some (.builtin "BaseException.__getattribute__"))) (h2 : PySem.W.findIn K (.ref C) "__getattr__" = some none) (h3 : PySem.W.hasDictIn K C = true) (h4 : PySem.W.findIn K (.ref C) "__class__" = some (some (.builtin "object.__class__")))
    (h5 : PySem.W.specialIn K (.builtin "object.__class__") "__get__" = some (some (.builtin "getset_descriptor.__get__"))) (h6 : PySem.W.takesIn K (.builtin "object.__class__") = some true) (h7 : PySem.W.mroIn K C (.type "object") = some true) : ∃ k : ExcAt K mg x, k.C = C :=
  ⟨⟨C, PySem.W.mg_of X G a, q, kp, sb, tp, ⟨h1, h2, sb, h3, h4, h5, h6, h7⟩⟩, rfl⟩
theorem kit_self {K : PySem.W.Frag} {t : Value} : PySem.W.kitOne K t t = some true := by
  unfold PySem.W.kitOne
  rw [if_pos (by simp)]
end TLY

/-! Tree layer, part 12: sorted of a tuple, a str times an int, rows of one's own by a comprehension. -/
namespace TLY
open PySem PySem.Spec PyProof.Rows Srt SrtO L2
section
variable {prog : Program} {w : World} {A : Around} {E : Value → Shared → Prop} {s : Shared}
theorem collect_tup {l : Addr} {vs : List Value} {Q : List Value → Shared → Prop} (hl : s.heap.IsTuple l vs.toArray)
    (h : Q vs { s with heap := (s.heap.push (seqObj "list" #[] 0)).update s.heap.objs.size (Obj.mapSeq (· ++ vs.toArray)) }) (hsz : vs.length ≤ sizeLine) :
    wpAny (model prog w) A (collect (.ref l)) Q E s := by
  obtain ⟨o, ho, hc, n, hd⟩ := id hl
  unfold collect
  refine wpAny_bind (wpAny_runValue (codeAny_builtin entry_proto_collect' ?_))
  show wpAny _ _ (do again (.builtin "list.__iadd__" ⟨[← newList [], .ref l], []⟩)) _ _ s
  refine wpAny_bind (wpAny_newList (wpAny_pure ⟨Code.quiet_builtin _ (by decide +kernel), codeAny_builtin entry_list_iadd' ?_⟩))
  show wpAny _ _ (Builtin.List.listExtendWith (.ref s.heap.objs.size) (.ref l) (.ref s.heap.objs.size)) _ _ { s with heap := s.heap.push (seqObj "list" #[] 0) }
  unfold Builtin.List.listExtendWith
  have ho' : (s.heap.push (seqObj "list" #[] 0)).get? l = some o := Heap.get?_push_of_some _ ho
  refine wpAny_bind (wpAny_typeOf (T := "tuple") ⟨o, ho', hc⟩ ?_)
  have ht : (Value.type "tuple" == Value.type "tuple") = true := by rfl
  rw [if_pos (by rw [ht]; simp)]
  refine wpAny_bind (listItems_at ho' hd ?_)
  refine wpAny_bind (listItems_at (xs := #[]) (n := 0) (Heap.get?_push_size _ rfl) rfl ?_)
  rw [if_neg (by simp)]
  refine wpAny_bind (listUpdate_at (xs := #[]) (n := 0) (Heap.get?_push_size _ rfl) rfl ?_ (Nat.zero_le _) (by show (#[] ++ vs.toArray).size ≤ sizeLine + 1; simp only [Array.size_append, List.size_toArray, List.length_nil]; omega))
  refine wpAny_pure ?_
  show wpAny (model prog w) A (do
      let o ← load s.heap.objs.size
      match o.data with
      | .seq xs _ => pure xs.toList
      | _ => unsupported "internal:collect") Q E { s with heap := (s.heap.push (seqObj "list" #[] 0)).update s.heap.objs.size (Obj.mapSeq (· ++ vs.toArray)) }
  refine wpAny_bind (wpAny_load (get?_update_seq (Heap.get?_push_size _ rfl) _) ?_)
  show wpAny _ _ (pure ((#[] : Array Value) ++ vs.toArray).toList) Q E _
  rw [show ((#[] : Array Value) ++ vs.toArray).toList = vs by simp]
  exact wpAny_pure h
theorem sorted_ordT {l : Addr} {vs : List Value} {ltv : Value → Value → Bool} {Q : Value → Shared → Prop} (O : Swo ltv) (hl : s.heap.IsTuple l vs.toArray) (hz : vs.length ≤ sizeLine)
    (hS : 2 ≤ vs.length → ∀ (h₁ : Heap) (a : Addr), h₁.get? a = some (seqObj "list" vs.toArray 0) → (∀ b o, s.heap.get? b = some o → b ≠ a ∧ h₁.get? b = some o) → SortableO prog w A.in1.in1 { s with heap := h₁ } a vs ltv)
    (h : ∀ out : List Value, Srtd ltv out → Stb ltv out vs → Q (.ref (s.heap.objs.size + 1)) { s with heap := sortedAll s.heap vs out.toArray }) :
    wpAny (model prog w) A (call (.builtin "sorted") [.ref l]) Q E s := by
  refine Calls.call_function_entry kind_sorted plain_sorted entry_sorted (args_sorted1 _) ?_
  unfold Builtin.«sorted»
  refine wpAny_bind (m := checkCount "sorted" 1 1 _) (wpAny_pure ?_)
  refine wpAny_bind (collect_tup hl ?_ hz)
  refine wpAny_bind (wpAny_newList ?_ hz)
  have hsz : ((s.heap.push (seqObj "list" #[] 0)).update s.heap.objs.size (Obj.mapSeq (· ++ vs.toArray))).objs.size = s.heap.objs.size + 1 := by
    rw [Heap.size_update, size_push']
  have hoL : (((s.heap.push (seqObj "list" #[] 0)).update s.heap.objs.size (Obj.mapSeq (· ++ vs.toArray))).push (seqObj "list" vs.toArray 0)).get? (s.heap.objs.size + 1) = some (seqObj "list" vs.toArray 0) := by
    rw [← hsz]; exact Heap.get?_push_size _ rfl
  have keep : ∀ b o, s.heap.get? b = some o → b ≠ s.heap.objs.size + 1 ∧ (((s.heap.push (seqObj "list" #[] 0)).update s.heap.objs.size (Obj.mapSeq (· ++ vs.toArray))).push (seqObj "list" vs.toArray 0)).get? b = some o := fun b o q => by
    have hlt : b < s.heap.objs.size := Heap.lt_size q
    refine ⟨Nat.ne_of_lt (Nat.lt_succ_of_lt hlt), Heap.get?_push_of_some _ ?_⟩
    rw [Heap.get?_update_ne _ _ _ _ (Nat.ne_of_lt hlt)]
    exact Heap.get?_push_of_some _ q
  show wpAny _ _ _ _ _ { s with heap := ((s.heap.push (seqObj "list" #[] 0)).update s.heap.objs.size (Obj.mapSeq (· ++ vs.toArray))).push (seqObj "list" vs.toArray 0) }
  rw [hsz]
  refine wpAny_bind (wpAny_holding (wpAny_call_entry slot_list_sort ⟨_, hoL, rfl⟩ entry_list_sort (list_sort_ord O hoL hz (fun h2 => hS h2 _ _ hoL keep) fun out hs hb => ⟨_, rfl, ?_⟩) (args_list_sort _)))
  exact wpAny_pure ⟨_, rfl, h out hs hb⟩
end
section
variable {X : Cx}
def rSortedT (K : PySem.W.Frag) : List V → Hp → VK → Prop := fun xs H Q => ∃ (a : Addr) (ns : List Int), xs = [V.ref a] ∧ SqT K H a (ns.map V.int) ∧ ∀ (l : Addr) (ns' : List Int), ns'.Perm ns → ns'.Pairwise (· ≤ ·) → H l = none → Q (.ref l) (upd H l (.lst (ns'.map V.int)))
theorem cr_sortedT : CallR X (.builtin "sorted") (rSortedT X.K) := by
  intro pins s σ H vs us Q I r h
  obtain ⟨a, ns, rfl, hs, q⟩ := h
  obtain ⟨its, rv, hl, hz⟩ := I.tuple hs
  rw [Vals.ref1 r]
  have hi := rv.ints
  refine sorted_ordT SrtO.swo_int hl (by rw [← rv.length]; exact hz) (fun h2 h₁ a' _ _ => SrtO.ints_sortable hi h2) fun out h1 h2 => ?_
  obtain ⟨k1, k2, k3⟩ := SrtO.ints_out hi h1 h2
  obtain ⟨ep, he'⟩ := PyProof.Rows.sortedAll_at s.heap its out.toArray
  have hlen : ((out.map SrtO.iv).map V.int).length ≤ sizeLine := by
    rw [List.length_map, k2.length_eq]
    rw [List.length_map] at hz
    exact hz
  exact ⟨.ref _, upd H (s.heap.objs.size + 1) (.lst ((out.map SrtO.iv).map V.int)), I.laid (t' := s.toks) (fun _ _ => PyProof.Rows.sortedAll_old) (Nat.le_succ _) ⟨hlen, out, ep, vals_of_ints k1, he'⟩, rfl, q _ _ k2 k3 (I.hok.fresh (Nat.le_succ _))⟩
/-- sorted of ints, list or tuple -/
def rSortedA (K : PySem.W.Frag) : List V → Hp → VK → Prop := fun xs H Q => rSortedI K xs H Q ∨ rSortedT K xs H Q
theorem cr_sortedA : CallR X (.builtin "sorted") (rSortedA X.K) := cr_sortedI.or cr_sortedT
def fSortedA (ss : List S) (Q : S → Prop) : Prop := match ss with
  | [s] => ∃ ns : List Int, s.seq? = some (ns.map T.int) ∧ ∀ ns' : List Int, ns'.Perm ns → ns'.Pairwise (· ≤ ·) → Q (.l1 (ns'.map T.int))
  | _ => False
theorem callT_sortedA : CallT X.K (rSortedA X.K) fSortedA := by
  intro pa F H vs ss Qt Q g b q k
  unfold fSortedA at q
  split at q
  · obtain ⟨ns, e, q⟩ := q
    obtain ⟨v, rfl, bv⟩ := b.one
    obtain ⟨a, ws, rfl, hq, r⟩ := bv.seq g e
    rw [r.ints] at hq
    rcases hq with hq | hq
    · exact .inl ⟨a, ns, rfl, hq, fun ns' p h1 h2 hp => k _ _ _ _ (q ns' h1 h2) (.laid g hp) (fresh_l1 g hp Rps.ofInts)⟩
    · exact .inr ⟨a, ns, rfl, hq, fun p ns' h1 h2 hp => k _ _ _ _ (q ns' h1 h2) (.laid g hp) (fresh_l1 g hp Rps.ofInts)⟩
  · exact q.elim
/-! ### a str times an int -/
def repS (x : Str) (n : Nat) : Str := ⟨(List.replicate n x.cps).foldl (· ++ ·) #[]⟩
def rMulS : V → V → Hp → VK → Prop := fun x y H Q => ∃ (z : Str) (n : Int), x = V.str z ∧ y = V.int n ∧ n ≤ 1000000 ∧ -1000000 ≤ n ∧ z.length = 1 ∧ Q (.str (if n < 1 then Str.empty else if n = 1 then z else repS z n.toNat)) H
theorem foldl_repN (its : List Nat) : ∀ (k : Nat) (acc : List Nat), List.foldl (fun x1 x2 => x1 ++ x2) acc.toArray (List.replicate k its.toArray) = (acc ++ (List.replicate k its).flatten).toArray
  | 0, acc => by simp
  | k + 1, acc => by
    have e : acc.toArray ++ its.toArray = (acc ++ its).toArray := by simp
    have e2 : (acc ++ its) ++ (List.replicate k its).flatten = acc ++ (List.replicate (k + 1) its).flatten := by
      rw [List.replicate_succ, List.flatten_cons, List.append_assoc]
    rw [← e2, ← foldl_repN its k (acc ++ its), ← e, List.replicate_succ, List.foldl_cons]
theorem op_mulS : OpR X (binaryOp .Mult) rMulS := by
  intro pins s σ H x y v u Q I rx ry h
  obtain ⟨z, n, rfl, rfl, h1, h2, hz, q⟩ := h
  obtain ⟨t, rfl⟩ := rx
  obtain ⟨t', rfl⟩ := ry
  refine PySem.P.mul_str ?_ (fun a b => ?_) (fun a b => ?_) ?_
  · have a1 : ¬ n < -(2 ^ 63 : Int) := by omega
    have a2 : ¬ n ≥ 2 ^ 63 := by omega
    rw [decide_eq_false a1, decide_eq_false a2]; rfl
  · have a1 : (z.length : Int) = 1 := by rw [hz]; rfl
    rw [a1]
    have : (1 : Int) ≤ (2 ^ 63 - 1) / n := (Int.le_ediv_iff_mul_le (by omega)).mpr (by omega)
    omega
  · rw [hz]
    unfold Builtin.Str.tooLong
    simp only [decide_eq_false_iff_not]
    rw [sizeLine_eq]
    omega
  · by_cases c : n < 1
    · rw [if_pos c] at q ⊢
      exact ⟨by decide, .str _, H, I.tok _, ⟨_, rfl⟩, q⟩
    · rw [if_neg c] at q ⊢
      by_cases c2 : n = 1
      · rw [if_pos c2] at q
        rw [if_pos (by simp [c2])]
        exact ⟨.str _, H, I.tok _, ⟨_, rfl⟩, q⟩
      · rw [if_neg c2] at q
        rw [if_neg (by simp [c2, hz])]
        refine ⟨?_, .str _, H, I.tok _, ⟨_, rfl⟩, q⟩
        show (repS z n.toNat).cps.size ≤ sizeLine
        have e : (repS z n.toNat).cps = (List.replicate n.toNat z.cps.toList).flatten.toArray := by
          have := foldl_repN z.cps.toList n.toNat []
          rw [List.nil_append] at this
          unfold repS
          rw [← this, Array.toArray_toList]
        have hz' : z.cps.toList.length = 1 := by rw [Array.length_toList]; exact hz
        rw [e, List.size_toArray, PyProof.Rows.lm_len_rep_flat, hz', sizeLine_eq]
        omega
def fMulS (x y : S) (Q : S → Prop) : Prop := match x, y with
  | .p (.str z), .p (.int n) => z.length = 1 ∧ -1000000 ≤ n ∧ n ≤ 1000000 ∧ ∀ x, Q (.p (.str x))
  | _, _ => False
theorem opT_mulS {K : PySem.W.Frag} : OpT K rMulS fMulS := by
  intro pa F H x y sx sy Qt Q gd bx b_y q k
  unfold fMulS at q
  split at q
  · obtain rfl := bx.str
    obtain rfl := b_y.int
    exact ⟨_, _, rfl, rfl, q.2.2.1, q.2.1, q.1, k _ _ F H (q.2.2.2 _) (.refl gd) (.pure (.str _))⟩
  · exact q.elim
variable {W : WX} {a b : Expr} {ta tb : RE} {pos : Pos}
theorem ve_mulS (ha : BE X W a ta) (hb : BE X W b tb) : VE X W (.BinOp a .Mult b pos) (rOp fMulS ta tb) := ve_op op_mulS opT_mulS ha hb
/-! ### rows of one's own by a comprehension -/
def lcRW (g : RG) (tt : RT) (te : RE) (e : Sl) (k : List (List T) → Prop) : List T → List (List T) → Prop
  | [], acc => k acc
  | x :: l, acc => g x e fun e1 => tt e1 (fun b => if b = true then te e1 (fun r => acc.length < sizeLine ∧ ∃ row, r = .l1 row ∧ lcRW g tt te e k l (acc ++ [row])) (fun _ => False) else lcRW g tt te e k l acc) (fun _ => False)
def rLcR (ti : RI) (g : RG) (tt : RT) (te : RE) (vs : List Nat) : RE := fun e Q E => ti e (fun l => lcRW g tt te (wipeE e vs) (fun acc => Q (.l2 acc)) l []) E
theorem Rows.snoc {K : PySem.W.Frag} {pa : Addr} {F H : Hp} {b : Addr} {vs : List V} {l : List T} (h : H b = some (.lst vs)) (r : Rps K pa F vs l) : ∀ {bs : List Addr} {ls : List (List T)}, Rows K pa F H bs ls → Rows K pa F H (bs ++ [b]) (ls ++ [l])
  | _, _, .nil => .cons h r .nil
  | _, _, .cons h1 r1 t => .cons h1 r1 (Rows.snoc h r t)
theorem lcR_run {K : PySem.W.Frag} {ti : RI} {g : TG} {gt : RG} {tt : RT} {te : RE} {vs : List Nat} (tg : TgT K g vs gt) {σ : L2.St} {H : Hp} {Q : VK} (h : liftV K W (rLcR ti gt tt te vs) σ H Q) :
    tLc (liftI K W ti) g (liftT K W0 tt) (liftV K W0 te) vs σ H Q := by
  obtain ⟨C, F, e, O, Qt, Et, rl, q, k, x⟩ := h
  refine ⟨C, F, e, O, _, Et, rl, q, fun l J F1 H1 q1 g1 wk D hD => ?_, x⟩
  have r1 := rl.grow g1
  have gd := g1.good
  refine ⟨fun i m H' => m = l.length - i ∧ i ≤ l.length ∧ ∃ F' acc bs, Grow K C.pa F1 H1 F' H' ∧ F' D = none ∧ H' D = some (.lst (bs.map V.ref)) ∧ Rows K C.pa F' H' bs acc ∧ bs.Nodup ∧ (∀ b ∈ bs, H1 b = none ∧ F' b = none ∧ b ≠ D) ∧ lcRW gt tt te (wipeE e vs) (fun acc => Qt (.l2 acc)) (l.drop i) acc,
    ⟨l.length, by simp, Nat.zero_le _, F1, [], [], .laid gd hD, gd.fnone hD, upd_same, .nil, List.nodup_nil, by simp, q1⟩, ?_⟩
  rintro i m H' ⟨rfl, hi, F', acc, bs, gg, fD, hDl, ra, nd, nw, q2⟩
  by_cases hlt : i < l.length
  · refine .inr ⟨wk.goes i F' H' hlt gg.f gg.good, fun H5 => ∃ F5 acc5 bs5, Grow K C.pa F1 H1 F5 H5 ∧ F5 D = none ∧ H5 D = some (.lst (bs5.map V.ref)) ∧ Rows K C.pa F5 H5 bs5 acc5 ∧ bs5.Nodup ∧ (∀ b ∈ bs5, H1 b = none ∧ F5 b = none ∧ b ≠ D) ∧ lcRW gt tt te (wipeE e vs) (fun acc => Qt (.l2 acc)) (l.drop (i + 1)) acc5, fun H5 h5 => ⟨l.length - (i + 1), by omega, rfl, hlt, h5⟩, fun v H3 y => ?_⟩
    obtain ⟨t, F3, et, g3, w3⟩ := wk.yields i F' H' v H3 hlt gg.f gg.good y
    have el : l.drop i = t :: l.drop (i + 1) := by
      rw [List.drop_eq_getElem_cons hlt]
      rw [List.getElem?_eq_getElem hlt] at et
      rw [Option.some.inj et]
    rw [el] at q2
    have keepN : ∀ {F4 H4}, Grow K C.pa F' H' F4 H4 → ∀ b o, F' b = none → H' b = some o → F4 b = none := fun {F4 H4} g4 b o h1 h2 => by
      cases z : F4 b with
      | none => rfl
      | some o' =>
        rcases g4.new b o' z with z1 | z1
        · rw [h1] at z1; cases z1
        · rw [h2] at z1; cases z1
    have keepD : ∀ {F4 H4}, Grow K C.pa F' H' F4 H4 → F4 D = none ∧ H4 D = some (.lst (bs.map V.ref)) ∧ Rows K C.pa F4 H4 bs acc ∧ (∀ b ∈ bs, H1 b = none ∧ F4 b = none ∧ b ≠ D) := fun {F4 H4} g4 =>
      ⟨keepN g4 _ _ fD hDl, g4.keep _ _ hDl (gd.ne hD), ra.mono g4.f fun b hb o q => g4.keep b o q (gd.ne (nw b hb).1), fun b hb => by
        obtain ⟨o, ho⟩ := ra.there b hb
        exact ⟨(nw b hb).1, keepN g4 _ _ (nw b hb).2.1 ho, (nw b hb).2.2⟩⟩
    obtain ⟨O3, r3⟩ := ((r1.grow (gg.trans g3)).wipe vs)
    refine tg C F3 H3 _ _ O3 v t _ _ r3 w3 q2 fun σ' e' O' r' q3 es => ⟨by rw [es, wipe_self fun z hz => hz], ?_⟩
    refine ⟨C, F3, e', O', _, _, r', q3, fun b F4 H4 q4 g4 => ?_, exW0⟩
    have g34 := g3.trans g4
    cases b with
    | false =>
      rw [if_neg Bool.false_ne_true] at q4
      refine iteF ?_
      obtain ⟨d1, d2, d3, d4⟩ := keepD g34
      exact ⟨F4, acc, bs, gg.trans g34, d1, d2, d3, nd, d4, q4⟩
    | true =>
      rw [if_pos rfl] at q4
      refine iteT ?_
      refine ⟨C, F4, e', O', _, _, r'.grow g4, q4, fun s v5 F5 H5 ⟨hz, row, es, q5⟩ g5 b5 => ?_, exW0⟩
      subst es
      obtain ⟨L, w, nL, nn⟩ := b5
      have g35 := g34.trans g5
      obtain ⟨d1, d2, d3, d4⟩ := keepD g35
      obtain ⟨e1, e2, e3, e4⟩ := keepD g34
      cases w with
      | l1 h5 r5 =>
        rename_i b' ws
        obtain ⟨n1, n2⟩ := nn b' (by simp)
        have neD : b' ≠ D := fun z => by rw [z, e2] at n1; cases n1
        have nin : b' ∉ bs := fun z => by
          obtain ⟨o, ho⟩ := e3.there b' z
          rw [n1] at ho; cases ho
        have G := gg.trans g35
        refine ⟨bs.map V.ref, d2, by rw [List.length_map, ra.length]; exact hz, F5, acc ++ [row], bs ++ [b'], ?_, d1, by rw [List.map_append]; exact upd_same, ?_, ?_, ?_, q5⟩
        · refine ⟨G.f, fun b o hb n => ?_, G.new, ?_⟩
          · rw [upd_ne (ne_of_none hb hD)]
            exact G.keep b o hb n
          · refine ⟨fun b o hb => ?_, ?_⟩
            · have ne : b ≠ D := fun z => by rw [z, d1] at hb; cases hb
              rw [upd_ne ne]
              exact G.good.sub b o hb
            · obtain ⟨o1, q, ns, i', d, s', e, r⟩ := G.good.pool
              exact ⟨o1, q, ns, i', d, s', by rw [upd_ne (gd.ne hD).symm]; exact e, r⟩
        · refine (d3.snoc h5 r5).mono (Same.refl _) fun b hb o q => ?_
          have ne : b ≠ D := by
            rcases List.mem_append.mp hb with z | z
            · exact (d4 b z).2.2
            · obtain rfl : b = b' := by simpa using z
              exact neD
          rw [upd_ne ne]
          exact q
        · exact List.nodup_append.mpr ⟨nd, by simp, fun a ha b hb => by
            obtain rfl : b = b' := by simpa using hb
            intro z
            exact nin (z ▸ ha)⟩
        · intro b hb
          rcases List.mem_append.mp hb with z | z
          · exact d4 b z
          · obtain rfl : b = b' := by simpa using z
            exact ⟨(gg.trans g34).dom n1, n2, neD⟩
  · have e0 : i = l.length := by omega
    subst e0
    refine .inl ⟨wk.stops F' H' gg.f gg.good, ?_⟩
    rw [List.drop_length] at q2
    have G := g1.trans gg
    refine k _ _ F' H' q2 G ⟨D :: bs, .l2 hDl ra, List.nodup_cons.mpr ⟨fun z => (nw D z).2.2 rfl, nd⟩, fun a ha => ?_⟩
    rcases List.mem_cons.mp ha with rfl | ha
    · exact ⟨g1.dom hD, fD⟩
    · exact ⟨g1.dom (nw a ha).1, (nw a ha).2.1⟩
theorem ve_lcR {elt tg iter : Expr} {ifs : List Expr} {scope : Scope} {own : List (Str × Nat)} {pos : Pos} {ti : RI} {g : TG} {gt : RG} {tt : RT} {te : RE} (hc : X.calm = true) (hN : X.N.Nodup) (hi : VI X W tg iter ti) (ok : BlkOk X.N X.env.scope scope own)
    (hg : ∀ (s : Shared) (H : Hp) (C : Addr) (cl : List (Str × Addr)) (fp : List Addr), PG (X.blk s H scope (compEnvC scope cl C X.env) fp) tg g) (tgt : TgT X.K g (own.map (·.2)) gt)
    (ht : ∀ (s : Shared) (H : Hp) (C : Addr) (cl : List (Str × Addr)) (fp : List Addr), VTs (X.blk s H scope (compEnvC scope cl C X.env) fp) W0 ifs tt)
    (he : ∀ (s : Shared) (H : Hp) (C : Addr) (cl : List (Str × Addr)) (fp : List Addr), VE (X.blk s H scope (compEnvC scope cl C X.env) fp) W0 elt te) (hs : ∀ x, foldedSetIterable iter X.env x = pure x := by intro _; rfl) :
    VE X W (.ListComp elt [⟨tg, iter, ifs, 0⟩] scope pos) (rLcR ti gt tt te (own.map (·.2))) :=
  ⟨PE.imp (pe_lc hc hN hi.run ok hg (fun s H C cl fp => (ht s H C cl fp).run) (fun s H C cl fp => (he s H C cl fp).run) hs) fun σ H Q h => lcR_run tgt h⟩
theorem sv_setLcR (i : Nat) {y : Str} {py : Pos} {elt tg iter : Expr} {ifs : List Expr} {scope : Scope} {own : List (Str × Nat)} {pos spos : Pos} {ti : RI} {g : TG} {gt : RG} {tt : RT} {te : RE} (hc : X.calm = true) (hN : X.N.Nodup)
    (hi : VI X W tg iter ti) (ok : BlkOk X.N X.env.scope scope own)
    (hg : ∀ (s : Shared) (H : Hp) (C : Addr) (cl : List (Str × Addr)) (fp : List Addr), PG (X.blk s H scope (compEnvC scope cl C X.env) fp) tg g) (tgt : TgT X.K g (own.map (·.2)) gt)
    (ht : ∀ (s : Shared) (H : Hp) (C : Addr) (cl : List (Str × Addr)) (fp : List Addr), VTs (X.blk s H scope (compEnvC scope cl C X.env) fp) W0 ifs tt)
    (he : ∀ (s : Shared) (H : Hp) (C : Addr) (cl : List (Str × Addr)) (fp : List Addr), VE (X.blk s H scope (compEnvC scope cl C X.env) fp) W0 elt te)
    (hsw : swapsWith (.ListComp elt [⟨tg, iter, ifs, 0⟩] scope pos) (some (.Name y py)) spos.line X.env = pure true)
    (hy : X.N[i]? = some y := by rfl) (hyl : X.env.scope.names.lookup y = some .local := by rfl) (hs : ∀ x, foldedSetIterable iter X.env x = pure x := by intro _; rfl) :
    SV X W (.Assign [.Name y py] (.ListComp elt [⟨tg, iter, ifs, 0⟩] scope pos) spos) (rAsg i (rLcR ti gt tt te (own.map (·.2)))) :=
  ⟨PS.imp (ps_setLc hc hN hy hyl hsw hi.run ok hg (fun s H C cl fp => (ht s H C cl fp).run) (fun s H C cl fp => (he s H C cl fp).run) hs) fun D σ H ⟨C, F, e, O, R, r, q, f⟩ =>
    lcR_run tgt ⟨C, F, e, O, _, _, r, q, fun s v F' H' q' g w => by
      obtain ⟨O', r'⟩ := r.takeN (i := i) g w
      exact f.nx _ F' H' _ O' r' q', f.exw r⟩⟩
/-! ### rows that nobody changes from now on; their list stays one's own -/
def rFrzR (i : Nat) (t : RS) : RS := fun D e => match slotAt e i with
  | some (.l2 ls) => t D (e.set i (some (.l1 (ls.map T.lst))))
  | _ => False
theorem Rel.frozeR {K : PySem.W.Frag} {C : Ctx} {F H : Hp} {σ : L2.St} {e : Sl} {O : Nat → List Addr} (r : Rel K C F H σ e O) {i : Nat} {ls : List (List T)} (h : e[i]? = some (some (.l2 ls))) : ∃ F' O', Rel K C F' H σ (e.set i (some (.l1 (ls.map T.lst)))) O' ∧ Same F F' := by
  obtain ⟨v, h1, h2⟩ := r.at h
  have hi : i < e.length := by
    rcases Nat.lt_or_ge i e.length with q | q
    · exact q
    · rw [List.getElem?_eq_none q] at h; cases h
  have ow := r.own i
  have ndi := r.nd i
  generalize eO : O i = L at h2 ow ndi
  cases h2 with
  | l2 hq hr =>
    rename_i a bs
    have sub : ∀ b ∈ bs, b ∈ O i := fun b hb => by rw [eO]; exact List.mem_cons_of_mem _ hb
    have fr : ∀ b ∈ bs, F b = none := fun b hb => (ow b (List.mem_cons_of_mem _ hb)).1
    have sm : Same F (addF F H bs) := addF_same fr
    have gd : Good K C.pa (addF F H bs) H := addF_good r.ext.good fun b hb => ⟨fr b hb, (ow b (List.mem_cons_of_mem _ hb)).2.1⟩
    have hw : Rps K C.pa (addF F H bs) (bs.map V.ref) (ls.map T.lst) := hr.froze fr bs (fun b hb => hb) fr
    have anb : a ∉ bs := (List.nodup_cons.mp ndi).1
    refine ⟨_, fun j => if j = i then [a] else O j, ⟨⟨r.ext.f.trans sm, r.ext.keep, r.ext.dom, fun b o q => ?_, gd⟩, r.num, fun j => ?_, fun j => ?_, fun j k c h1 h2 => ?_, fun j c hc => ?_⟩, sm⟩
    · by_cases hb : b ∈ bs
      · rcases (ow b (List.mem_cons_of_mem _ hb)).2.2 with z | z
        · exact .inr (.inl z)
        · exact .inr (.inr z)
      · rw [addF_out hb] at q; exact r.ext.new b o q
    · by_cases hj : j = i
      · subst hj
        rw [if_pos rfl, List.getElem?_set_self hi, h1]
        exact .val (.l1 hq hw)
      · rw [if_neg hj, List.getElem?_set_ne (Ne.symm hj)]
        have q := r.slot j
        generalize σ[j]? = x, e[j]? = z, O j = y at q
        cases q with
        | out => exact .out
        | no => exact .no
        | val w => exact .val (w.mono sm fun _ _ _ q => q)
    · by_cases hj : j = i
      · rw [if_pos hj]; simp
      · rw [if_neg hj]; exact r.nd j
    · have up : ∀ j, c ∈ (if j = i then [a] else O j) → c ∈ O j := fun j hc => by
        by_cases hj : j = i
        · rw [if_pos hj] at hc
          obtain rfl : c = a := by simpa using hc
          rw [hj, eO]; exact List.mem_cons_self
        · rw [if_neg hj] at hc; exact hc
      exact r.dj j k c (up j h1) (up k h2)
    · by_cases hj : j = i
      · rw [if_pos hj] at hc
        obtain rfl : c = a := by simpa using hc
        obtain ⟨q1, q2, q3⟩ := ow c List.mem_cons_self
        exact ⟨by rw [addF_out anb]; exact q1, q2, q3⟩
      · rw [if_neg hj] at hc
        obtain ⟨q1, q2, q3⟩ := r.own j c hc
        refine ⟨?_, q2, q3⟩
        rw [addF_out fun hb => hj (r.dj j i c hc (sub c hb))]
        exact q1
theorem svs_frzR (i : Nat) {sts : List Stmt} {t : RS} (h : SVs X W sts t) : SVs X W sts (rFrzR i t) :=
  ⟨PSs.imp h.run fun D σ H ⟨C, F, e, O, R, r, q, f⟩ => by
    unfold rFrzR at q
    split at q
    · rename_i ls hs
      obtain ⟨F', O', r', _⟩ := r.frozeR (slotAt_some hs)
      exact ⟨C, F', _, O', R, r', q, f⟩
    · exact q.elim⟩
end
end TLY

/-! Tree layer, part 13: loops and comprehensions, read. -/
namespace TLY
open PySem PySem.Spec PyProof.Rows L2
theorem forW_inv {g : RG} {tb : RS} {D : EndsR} (I : Nat → Sl → Prop) {l : List T} {e : Sl} (h0 : I 0 e)
    (step : ∀ i x e (K : Sl → Prop), l[i]? = some x → I i e → (∀ e', I (i + 1) e' → K e') → g x e (fun e1 => tb { D with nx := K, ct := K, bk := D.nx } e1)) (hd : ∀ e, I l.length e → D.nx e) : forW g tb D l e := by
  have go : ∀ (k i : Nat), i + k = l.length → ∀ e, I i e → forW g tb D (l.drop i) e := by
    intro k
    induction k with
    | zero =>
      intro i hi e h
      have : i = l.length := by omega
      subst this
      rw [List.drop_length]
      exact hd e h
    | succ k ih =>
      intro i hi e h
      have hlt : i < l.length := by omega
      rw [List.drop_eq_getElem_cons hlt]
      exact step i _ e _ (List.getElem?_eq_getElem hlt) h fun e' h' => ih (i + 1) (by omega) e' h'
  exact go l.length 0 (by omega) e h0
theorem forR {g : RG} {tb : RS} {D : EndsR} {m : Nat} {e : Sl} (I : Nat → Sl → Prop) (h0 : I 0 e)
    (step : ∀ (i : Nat) e (K : Sl → Prop), i < m → I i e → (∀ e', I (i + 1) e' → K e') → g (.int (i : Int)) e (fun e1 => tb { D with nx := K, ct := K, bk := D.nx } e1)) (hd : ∀ e, I m e → D.nx e) : forW g tb D (upTo 0 m) e := by
  have hl : (upTo 0 m).length = m := by unfold upTo; simp
  refine forW_inv I h0 (fun i x e K hx h k => ?_) (fun e h => hd e (by rw [hl] at h; exact h))
  unfold upTo at hx
  rw [List.getElem?_map] at hx
  have hi : i < m := by
    rcases Nat.lt_or_ge i m with z | z
    · exact z
    · rw [List.getElem?_eq_none (by simpa using z)] at hx; cases hx
  rw [List.getElem?_eq_getElem (by simpa using hi)] at hx
  simp at hx
  subst hx
  exact step i e K hi h k
/-- a comprehension whose element is a function of the item -/
theorem lcW_map {i : Nat} {te : RE} {e : Sl} {k : List T → Prop} (f : T → S) : ∀ {l : List T} {acc : List T}, (∀ x ∈ l, ∀ Q : S → Prop, Q (f x) → te (e.set i (some (.p x))) Q (fun _ => False)) → acc.length + l.length ≤ sizeLine → k (acc ++ l.map fun x => (f x).fz) → lcW (gN i) rYes te e k l acc
  | [], acc, h, hz, hk => by simpa [lcW] using hk
  | x :: l, acc, h, hz, hk => by
    have e1 : acc ++ (x :: l).map (fun x => (f x).fz) = (acc ++ [(f x).fz]) ++ l.map fun x => (f x).fz := by simp
    rw [e1] at hk
    simp only [List.length_cons] at hz
    refine h x List.mem_cons_self _ ⟨by omega, lcW_map f (fun y hy => h y (List.mem_cons_of_mem _ hy)) ?_ hk⟩
    simp only [List.length_append, List.length_cons, List.length_nil]
    omega
/-- over a range -/
theorem lcW_upTo {i : Nat} {te : RE} {e : Sl} {k : List T → Prop} {lo : Int} {m : Nat} (f : Nat → S) (h : ∀ j, j < m → ∀ Q : S → Prop, Q (f j) → te (e.set i (some (.p (.int (lo + (j : Int)))))) Q (fun _ => False)) (hz : m ≤ sizeLine) (hk : k ((List.range m).map fun j => (f j).fz)) : lcW (gN i) rYes te e k (upTo lo m) [] := by
  have go : ∀ (l : List Nat) (acc : List T), (∀ j ∈ l, j < m) → acc.length + l.length ≤ sizeLine → k (acc ++ l.map fun j => (f j).fz) → lcW (gN i) rYes te e k (l.map fun (j : Nat) => T.int (lo + (j : Int))) acc := by
    intro l
    induction l with
    | nil => intro acc _ _ hk; simpa [lcW] using hk
    | cons x l ih =>
      intro acc hm hz hk
      simp only [List.length_cons] at hz
      refine h x (hm x List.mem_cons_self) _ ⟨by omega, ih _ (fun j hj => hm j (List.mem_cons_of_mem _ hj)) ?_ (by simpa using hk)⟩
      simp only [List.length_append, List.length_cons, List.length_nil]
      omega
  exact go (List.range m) [] (fun j hj => List.mem_range.mp hj) (by simpa using hz) (by simpa using hk)
inductive All2 {α β : Type} (P : α → β → Prop) : List α → List β → Prop
  | nil : All2 P [] []
  | cons {a : α} {b : β} {l : List α} {m : List β} : P a b → All2 P l m → All2 P (a :: l) (b :: m)
theorem All2.length {α β : Type} {P : α → β → Prop} : ∀ {l : List α} {m : List β}, All2 P l m → l.length = m.length
  | _, _, .nil => rfl
  | _, _, .cons _ r => congrArg (· + 1) r.length
theorem All2.get {α β : Type} {P : α → β → Prop} : ∀ {l : List α} {m : List β} {i : Nat} {x : α}, All2 P l m → l[i]? = some x → ∃ y, m[i]? = some y ∧ P x y
  | _, _, _, _, .nil, e => by simp at e
  | _, _, 0, _, .cons h _, e => by simp at e; subst e; exact ⟨_, rfl, h⟩
  | _, _, i + 1, _, .cons _ r, e => by
    obtain ⟨y, h1, h2⟩ := All2.get (i := i) r (by simpa using e)
    exact ⟨y, by simpa using h1, h2⟩
theorem All2.getR {α β : Type} {P : α → β → Prop} : ∀ {l : List α} {m : List β} {i : Nat} {y : β}, All2 P l m → m[i]? = some y → ∃ x, l[i]? = some x ∧ P x y
  | _, _, _, _, .nil, e => by simp at e
  | _, _, 0, _, .cons h _, e => by simp at e; subst e; exact ⟨_, rfl, h⟩
  | _, _, i + 1, _, .cons _ r, e => by
    obtain ⟨y, h1, h2⟩ := All2.getR (i := i) r (by simpa using e)
    exact ⟨y, by simpa using h1, h2⟩
/-- any items: what each gives is among P -/
theorem lcW_any {g : RG} {te : RE} {e : Sl} {k : List T → Prop} (P : T → T → Prop) : ∀ {l acc : List T}, (∀ x ∈ l, ∀ Q : S → Prop, (∀ r, P x r.fz → Q r) → g x e fun e1 => te e1 Q (fun _ => False)) → acc.length + l.length ≤ sizeLine →
    (∀ rs, All2 P l rs → k (acc ++ rs)) → lcW g rYes te e k l acc
  | [], acc, h, hz, hk => by simpa [lcW] using hk [] .nil
  | x :: l, acc, h, hz, hk => by
    simp only [List.length_cons] at hz
    refine h x List.mem_cons_self _ fun r hr => ⟨by omega, lcW_any P (fun y hy => h y (List.mem_cons_of_mem _ hy)) ?_ fun rs hrs => ?_⟩
    · simp only [List.length_append, List.length_cons, List.length_nil]
      omega
    · have := hk (r.fz :: rs) (.cons hr hrs)
      simpa using this
end TLY
namespace TLY
open PySem
/-- what a clause says of a class: from what the written part says -/
theorem exm_mk {K : PySem.W.Frag} {B S : Addr} {b : Bool} (h1 : PySem.W.subIn K (.ref S) (.type "BaseException") = some true) (h2 : PySem.W.isClsIn K S = true) (h3 : PySem.W.typeIn K (.ref S) = some (.type "type")) (h4 : PySem.W.subIn K (.ref B) (.ref S) = some b) : PySem.W.exmOne K (.ref B) (.ref S) = some b := by
  have c1 : (PySem.W.subIn K (.ref S) (.type "BaseException") == some true) = true := by rw [h1]; rfl
  have c2 : ((PySem.W.clsIn K S).isSome && PySem.W.typeIn K (.ref S) == some (.type "type")) = true := by
    have z : (PySem.W.clsIn K S).isSome = true := h2
    rw [z, h3]; rfl
  show (if (PySem.W.subIn K (.ref S) (.type "BaseException") == some true) = true then (if ((PySem.W.clsIn K S).isSome && PySem.W.typeIn K (.ref S) == some (.type "type")) = true then PySem.W.subIn K (.ref B) (.ref S) else none) else none) = some b
  rw [if_pos c1, if_pos c2]
  exact h4
end TLY
namespace TLY
section
variable {i j : Int} {Q : S → Prop}
theorem fEq_int : fEq (.p (.int i)) (.p (.int j)) Q = Q (.p (.bl (decide (i = j)))) := rfl
theorem fNe_int : fNe (.p (.int i)) (.p (.int j)) Q = Q (.p (.bl (!decide (i = j)))) := rfl
theorem fEq_bl {i j : Bool} : fEq (.p (.bl i)) (.p (.bl j)) Q = Q (.p (.bl (decide (i = j)))) := rfl
theorem fEq_str {i j : PySem.Str} : fEq (.p (.str i)) (.p (.str j)) Q = Q (.p (.bl (decide (i = j)))) := rfl
theorem fAdd_int : fAdd (.p (.int i)) (.p (.int j)) Q = Q (.p (.int (i + j))) := rfl
theorem fSub_int : fSub (.p (.int i)) (.p (.int j)) Q = Q (.p (.int (i - j))) := rfl
theorem fLt_int : fLt (.p (.int i)) (.p (.int j)) Q = Q (.p (.bl (decide (i < j)))) := rfl
theorem fLe_int : fLe (.p (.int i)) (.p (.int j)) Q = Q (.p (.bl (decide (i ≤ j)))) := rfl
theorem fGt_int : fGt (.p (.int i)) (.p (.int j)) Q = Q (.p (.bl (decide (j < i)))) := rfl
theorem fGe_int : fGe (.p (.int i)) (.p (.int j)) Q = Q (.p (.bl (decide (j ≤ i)))) := rfl
theorem fIsN_non {x : S} : fIsN x (.p .non) Q = Q (.p (.bl x.isNon)) := rfl
theorem fIx_int {x : S} : fIx x (.p (.int i)) Q = ∃ t, x.at? i = some t ∧ Q (.p t) := rfl
theorem fIxB_p {t : T} : fIxB (.p t) (.p (.int i)) Q = ∃ u, (S.p t).at? i = some u ∧ Q (.p u) := rfl
theorem fIxB_l1 {l : List T} : fIxB (.l1 l) (.p (.int i)) Q = ∃ u, (S.l1 l).at? i = some u ∧ Q (.p u) := rfl
theorem fIxB_l2 {ls : List (List T)} : fIxB (.l2 ls) (.p (.int i)) Q = ∃ l, L2.atI ls i = some l ∧ Q (.l1 l) := rfl
theorem fLen_one {s : S} : fLen [s] Q = ∃ n : Nat, s.size? = some n ∧ Q (.p (.int n)) := rfl
theorem fTuple_one {s : S} : fTuple [s] Q = ∃ l, s.seq? = some l ∧ Q (.p (.tup l)) := rfl
theorem fList_one {s : S} : fList [s] Q = ∃ l, s.seq? = some l ∧ Q (.l1 l) := rfl
theorem fAll_one {s : S} : fAll [s] Q = ∃ bs : List Bool, s.lst? = some (bs.map T.bl) ∧ Q (.p (.bl (bs.all id))) := rfl
theorem fAny_one {s : S} : fAny [s] Q = ∃ bs : List Bool, s.lst? = some (bs.map T.bl) ∧ Q (.p (.bl (bs.any id))) := rfl
theorem fSum_one {s : S} : fSum [s] Q = ∃ ns : List Int, s.seq? = some (ns.map T.int) ∧ Q (.p (.int ns.sum)) := rfl
theorem rSlot_at {k : Nat} {e : Sl} {E : Ex → Prop} : rSlot k e Q E = match TLY.slotAt e k with
  | some s => Q s
  | none => False := rfl
end
theorem asB_bl {Q : Bool → Prop} {b : Bool} : asB Q (.p (.bl b)) = Q b := rfl
end TLY
namespace TLY
open PySem
/-- an expression whose value is z, come what may -/
def EvI (t : RE) (e : Sl) (z : Int) : Prop := ∀ Q E, Q (.p (.int z)) → t e Q E
def EvS (t : RE) (e : Sl) (s : S) : Prop := ∀ Q E, Q s → t e Q E
def EvB (t : RT) (e : Sl) (b : Bool) : Prop := ∀ Q E, Q b → t e Q E
/-- if c: x.append(e) -/
theorem app_if {c : RT} {te : RE} {D : EndsR} {e : Sl} {i : Nat} {b : Bool} {r : S} {l : List T} (hc : EvB c e b) (ht : b = true → EvS te e r) (hs : TLY.slotAt e i = some (.l1 l)) (hl : l.length < sizeLine)
    (hk : D.nx (e.set i (some (.l1 (l ++ (if b = true then [r.fz] else [])))))) (he : e.set i (some (.l1 l)) = e := by rfl) : rIfS c (rApp i te) rNext D e := by
  refine hc _ _ ?_
  cases b with
  | false =>
    simp only [Bool.false_eq_true, if_false, List.append_nil] at hk ⊢
    rw [he] at hk
    exact hk
  | true =>
    simp only [if_true] at hk ⊢
    unfold rApp
    rw [hs]
    exact ht rfl _ _ ⟨hl, hk⟩
theorem ev_pair {x y : RE} {e : Sl} {X Y : Int} (hx : EvI x e X) (hy : EvI y e Y) : EvS (rTup (fCons x (fCons y fNil))) e (.p (.tup [.int X, .int Y])) := fun Q E h =>
  hx _ _ (hy _ _ ⟨by simp only [List.length_cons, List.length_nil]; rw [sizeLine_eq]; decide, h⟩)
theorem ev_tup4 {x y z w : RE} {e : Sl} {a b c d : S} (hx : EvS x e a) (hy : EvS y e b) (hz : EvS z e c) (hw : EvS w e d) : EvS (rTup (fCons x (fCons y (fCons z (fCons w fNil))))) e (.p (.tup [a.fz, b.fz, c.fz, d.fz])) := fun Q E h =>
  hx _ _ (hy _ _ (hz _ _ (hw _ _ ⟨by simp only [List.length_cons, List.length_nil]; rw [sizeLine_eq]; decide, h⟩)))
end TLY
namespace TLY
open PySem
theorem app_if_seq {c : RT} {te : RE} {u : RS} {D : EndsR} {e : Sl} {i : Nat} {b : Bool} {r : S} {l : List T} (hc : EvB c e b) (ht : b = true → EvS te e r) (hs : TLY.slotAt e i = some (.l1 l)) (hl : l.length < sizeLine)
    (hk : u D (e.set i (some (.l1 (l ++ (if b = true then [r.fz] else [])))))) (he : e.set i (some (.l1 l)) = e := by rfl) : rSeq (rIfS c (rApp i te) rNext) u D e :=
  app_if (D := { D with nx := u D }) hc ht hs hl hk he
end TLY
namespace TLY
open PySem
theorem if_seq {c : RT} {A u : RS} {D : EndsR} {e : Sl} {b : Bool} (hc : EvB c e b) (h1 : b = true → A { D with nx := u D } e) (h2 : b = false → u D e) : rSeq (rIfS c A rNext) u D e := by
  refine hc _ _ ?_
  cases b with
  | true => simp only [if_true]; exact h1 rfl
  | false => simp only [Bool.false_eq_true, if_false]; exact h2 rfl
theorem if_only {c : RT} {A B : RS} {D : EndsR} {e : Sl} {b : Bool} (hc : EvB c e b) (h1 : b = true → A D e) (h2 : b = false → B D e) : rIfS c A B D e := by
  refine hc _ _ ?_
  cases b with
  | true => simp only [if_true]; exact h1 rfl
  | false => simp only [Bool.false_eq_true, if_false]; exact h2 rfl
theorem for_seq {ti : RI} {g : RG} {tb u : RS} {D : EndsR} {e : Sl} {l : List T} (hi : ∀ Q E, Q l → ti e Q E) (I : Nat → Sl → Prop) (h0 : I 0 e)
    (step : ∀ i x e (K : Sl → Prop), l[i]? = some x → I i e → (∀ e', I (i + 1) e' → K e') → g x e (fun e1 => tb { D with nx := K, ct := K, bk := u D } e1)) (hd : ∀ e, I l.length e → u D e) : rSeq (rFor ti g tb) u D e :=
  hi _ _ (forW_inv I h0 step hd)
theorem ev_or {t u : RT} {e : Sl} {a b : Bool} (ht : EvB t e a) (hu : a = false → EvB u e b) : EvB (tOrR t u) e (a || b) := fun Q E h => ht _ _ (by
  cases a with
  | true => simp only [if_true]; simpa using h
  | false => simp only [Bool.false_eq_true, if_false]; exact hu rfl _ _ (by simpa using h))
theorem ev_and {t u : RT} {e : Sl} {a b : Bool} (ht : EvB t e a) (hu : a = true → EvB u e b) : EvB (tAndR t u) e (a && b) := fun Q E h => ht _ _ (by
  cases a with
  | true => simp only [if_true]; exact hu rfl _ _ (by simpa using h)
  | false => simp only [Bool.false_eq_true, if_false]; simpa using h)
theorem ev_notR {t : RT} {e : Sl} {a : Bool} (ht : EvB t e a) : EvB (tNotR t) e (!a) := fun Q E h => ht _ _ h
theorem ev_tru {t : RE} {e : Sl} {a : Bool} (ht : EvS t e (.p (.bl a))) : EvB (tTru t) e a := fun Q E h => ht _ _ ⟨a, rfl, h⟩
theorem ev_isSeq {t : T} {e : Sl} {i : Nat} (hs : TLY.slotAt e i = some (.p t)) (hc : t.cls?.isSome = true) : EvS (rIsI ["tuple", "list"] (rSlot i)) e (.p (.bl t.items?.isSome)) := by
  intro Q E h
  unfold rIsI rSlot
  rw [hs]
  cases t <;> simp [T.cls?, S.cls?, S.isi, subT, T.items?] at hc h ⊢ <;> exact h
theorem size_items {t : T} {l : List T} (h : t.items? = some l) : (S.p t).size? = some l.length := by
  cases t <;> simp [T.items?] at h <;> subst h <;> rfl
theorem seq_items {t : T} {l : List T} (h : t.items? = some l) : (S.p t).seq? = some l := by
  cases t <;> simp [T.items?] at h <;> subst h <;> rfl
theorem at_items {t : T} {l : List T} {i : Int} (h : t.items? = some l) : (S.p t).at? i = L2.atI l i := by
  cases t <;> simp [T.items?] at h <;> subst h <;> rfl
theorem atI_n {α : Type} {l : List α} {k : Nat} {x : α} (h : l[k]? = some x) : L2.atI l (k : Int) = some x := by
  have hk : k < l.length := by
    rcases Nat.lt_or_ge k l.length with z | z
    · exact z
    · rw [List.getElem?_eq_none z] at h; cases h
  unfold L2.atI L2.ixN
  rw [if_pos (by omega), if_pos (by omega)]
  simpa using h
theorem ev_len {t : T} {l : List T} {e : Sl} {i : Nat} (hs : TLY.slotAt e i = some (.p t)) (h : t.items? = some l) : EvI (rCall fLen (rCons (rSlot i) rNil)) e l.length := by
  intro Q E q
  unfold rCall rCons rNil rSlot
  rw [hs]
  exact ⟨l.length, size_items h, q⟩
theorem ev_cmp {f : S → S → (S → Prop) → Prop} {ta tb : RE} {e : Sl} {x y : S} {b : Bool} (ha : EvS ta e x) (hb : EvS tb e y) (hf : ∀ Q, Q (.p (.bl b)) → f x y Q) : EvB (tOpT f ta tb) e b := fun Q E h => ha _ _ (hb _ _ (hf _ h))
theorem ev_op {f : S → S → (S → Prop) → Prop} {ta tb : RE} {e : Sl} {x y z : S} (ha : EvS ta e x) (hb : EvS tb e y) (hf : ∀ Q, Q z → f x y Q) : EvS (rOp f ta tb) e z := fun Q E h => ha _ _ (hb _ _ (hf _ h))
theorem ev_chain {f g : S → S → (S → Prop) → Prop} {ta tb tc : RE} {e : Sl} {x y z : S} {a b : Bool} (ha : EvS ta e x) (hb : EvS tb e y) (hf : ∀ Q, Q (.p (.bl a)) → f x y Q) (hc : EvS tc e z) (hg : ∀ Q, Q (.p (.bl b)) → g y z Q) : EvB (tChT f g ta tb tc) e (a && b) := fun Q E h =>
  ha _ _ (hb _ _ (hf _ (by
    show if a = true then _ else _
    cases a with
    | true => simp only [if_true]; exact hc _ _ (hg _ (by simpa [asB] using h))
    | false => simp only [Bool.false_eq_true, if_false]; simpa using h)))
theorem ev_slot {e : Sl} {i : Nat} {s : S} (hs : TLY.slotAt e i = some s) : EvS (rSlot i) e s := fun Q E h => by
  unfold rSlot
  rw [hs]
  exact h
theorem ev_var {e : Sl} {i : Nat} {t : T} (hs : TLY.slotAt e i = some (.p t)) : EvS (rVar i) e (.p t) := fun Q E h => by
  unfold rVar
  rw [hs]
  exact h
theorem ev_c {e : Sl} {t : T} : EvS (rC t) e (.p t) := fun Q E h => h
theorem enumT_at : ∀ {l : List T} {k i : Nat} {x : T}, (enumT l k)[i]? = some x → ∃ r, l[i]? = some r ∧ x = .tup [.int ((k + i : Nat) : Int), r]
  | [], _, _, _, h => by simp [enumT] at h
  | y :: l, k, 0, x, h => by
    simp [enumT] at h
    subst h
    exact ⟨y, rfl, by simp⟩
  | y :: l, k, i + 1, x, h => by
    obtain ⟨r, h1, h2⟩ := enumT_at (l := l) (k := k + 1) (i := i) (x := x) (by simpa [enumT] using h)
    exact ⟨r, by simpa using h1, by rw [h2]; congr 3; omega⟩
/-- all(..) of tests of the items -/
theorem ev_all {e : Sl} {i j : Nat} {t : T} {l : List T} {te : RE} (f : T → Bool) (hs : TLY.slotAt e i = some (.p t)) (h : t.items? = some l) (hz : l.length ≤ sizeLine) (he : ∀ x ∈ l, EvS te ((wipeE e [j]).set j (some (.p x))) (.p (.bl (f x)))) :
    EvS (rCall fAll (rCons (rLc (iSeq (rVar i)) (gN j) rYes te [j]) rNil)) e (.p (.bl (l.all f))) := by
  intro Q E q
  unfold rCall rCons rNil rLc iSeq rVar
  rw [hs]
  refine ⟨l, h, lcW_map (fun x => .p (.bl (f x))) (fun x hx Q' hq => he x hx _ _ hq) (by simpa using hz) ?_⟩
  refine ⟨l.map f, by simp [S.lst?, S.fz, Function.comp_def], ?_⟩
  have : (l.map f).all id = l.all f := by simp [List.all_map, Function.comp_def]
  rw [this]
  exact q
end TLY
namespace TLY
open PySem
theorem ev_call1 {sp : FSpec} {ta : RE} {e : Sl} {s r : S} (ha : EvS ta e s) (h : ∀ Q E, Q r → sp [s.fz] Q E) : EvS (rCallU sp (fCons ta fNil)) e r := fun Q E q => by
  unfold rCallU fCons
  exact ha _ _ (h _ _ q)
theorem ev_call2 {sp : FSpec} {ta tb : RE} {e : Sl} {s u r : S} (ha : EvS ta e s) (hb : EvS tb e u) (h : ∀ Q E, Q r → sp [s.fz, u.fz] Q E) : EvS (rCallU sp (fCons ta (fCons tb fNil))) e r := fun Q E q => by
  unfold rCallU fCons
  exact ha _ _ (hb _ _ (h _ _ q))
theorem ev_add {ta tb : RE} {e : Sl} {x y : Int} (ha : EvI ta e x) (hb : EvI tb e y) : EvI (rOp fAdd ta tb) e (x + y) := fun Q E q => ha _ _ (hb _ _ q)
theorem ev_sub {ta tb : RE} {e : Sl} {x y : Int} (ha : EvI ta e x) (hb : EvI tb e y) : EvI (rOp fSub ta tb) e (x - y) := fun Q E q => ha _ _ (hb _ _ q)
theorem ev_lt {ta tb : RE} {e : Sl} {x y : Int} (ha : EvI ta e x) (hb : EvI tb e y) : EvB (tOpT fLt ta tb) e (decide (x < y)) := fun Q E q => ha _ _ (hb _ _ q)
theorem ev_neI {ta tb : RE} {e : Sl} {x y : Int} (ha : EvI ta e x) (hb : EvI tb e y) : EvB (tOpT fNe ta tb) e (!decide (x = y)) := fun Q E q => ha _ _ (hb _ _ q)
end TLY
namespace TLY
open PySem
theorem gN_mk {i : Nat} {t : T} {e : Sl} {Q : Sl → Prop} (h : Q (e.set i (some (.p t)))) : gN i t e Q := h
theorem asg_seq {i : Nat} {t : RE} {u : RS} {D : EndsR} {e : Sl} {s : S} (h : EvS t e s) (k : u D (e.set i (some s))) : rSeq (rAsg i t) u D e := h _ _ k
theorem drop_seq {t : RE} {u : RS} {D : EndsR} {e : Sl} {s : S} (h : EvS t e s) (k : u D e) : rSeq (rDrop t) u D e := h _ _ k
theorem ret_ev {t : RE} {D : EndsR} {e : Sl} {s : S} (h : EvS t e s) (k : D.rt s e) : rRet t D e := h _ _ k
end TLY
namespace TLY
open PySem
theorem asg_nd {i : Nat} {t : RE} {u : RS} {D : EndsR} {e : Sl} (h : t e (fun s => u D (e.set i (some s))) D.ex) : rSeq (rAsg i t) u D e := h
theorem for_nd {ti : RI} {g : RG} {tb u : RS} {D : EndsR} {e : Sl} (h : ti e (fun l => forW g tb { D with nx := u D } l e) D.ex) : rSeq (rFor ti g tb) u D e := h
theorem drop_nd {t : RE} {u : RS} {D : EndsR} {e : Sl} (h : t e (fun _ => u D e) D.ex) : rSeq (rDrop t) u D e := h
theorem ret_nd {t : RE} {D : EndsR} {e : Sl} (h : t e (fun s => D.rt s e) D.ex) : rRet t D e := h
theorem seq_nd {t u : RS} {D : EndsR} {e : Sl} (h : t { D with nx := u D } e) : rSeq t u D e := h
theorem lc_nd {ti : RI} {g : RG} {tt : RT} {te : RE} {vs : List Nat} {e : Sl} {Q : S → Prop} {E : Ex → Prop} (h : ti e (fun l => lcW g tt te (wipeE e vs) (fun acc => Q (.l1 acc)) l []) E) : rLc ti g tt te vs e Q E := h
theorem lcR_nd {ti : RI} {g : RG} {tt : RT} {te : RE} {vs : List Nat} {e : Sl} {Q : S → Prop} {E : Ex → Prop} (h : ti e (fun l => lcRW g tt te (wipeE e vs) (fun acc => Q (.l2 acc)) l []) E) : rLcR ti g tt te vs e Q E := h
theorem iR1_int {t : RE} {e : Sl} {Q : List T → Prop} {E : Ex → Prop} (n : Nat) (h : EvI t e (n : Int)) (hn : n ≤ 1000000) (q : Q (TLY.upTo 0 n)) : iR1 t e Q E := h _ _ ⟨⟨by omega, by omega⟩, by
  have : ((n : Int)).toNat = n := by omega
  rw [this]; exact q⟩
end TLY
namespace TLY
open PySem
theorem frz_nd {i : Nat} {t : RS} {D : EndsR} {e : Sl} {s : S} (hs : TLY.slotAt e i = some s) (h : t D (e.set i (some (.p s.fz)))) : rFrz i t D e := by
  unfold rFrz
  rw [hs]
  exact h
theorem frzR_nd {i : Nat} {t : RS} {D : EndsR} {e : Sl} {ls : List (List T)} (hs : TLY.slotAt e i = some (.l2 ls)) (h : t D (e.set i (some (.l1 (ls.map T.lst))))) : rFrzR i t D e := by
  unfold rFrzR
  rw [hs]
  exact h
theorem if_nd {t : RT} {ta tb : RE} {e : Sl} {Q : S → Prop} {E : Ex → Prop} (h : t e (fun b => if b = true then ta e Q E else tb e Q E) E) : rIf t ta tb e Q E := h
end TLY
namespace TLY
open PySem
theorem st1_nd {i : Nat} {tk t : RE} {D : EndsR} {e : Sl} {l : List T} (hs : TLY.slotAt e i = some (.l1 l)) (h : t e (fun s => tk e (fun k => match k with
    | .p (.int z) => ∃ j, L2.ixN l.length z = some j ∧ D.nx (e.set i (some (.l1 (l.set j s.fz))))
    | _ => False) D.ex) D.ex) : rSt1 i tk t D e := by
  unfold rSt1
  rw [hs]
  exact h
theorem st2_nd {i : Nat} {ta tb t : RE} {D : EndsR} {e : Sl} {ls : List (List T)} (hs : TLY.slotAt e i = some (.l2 ls)) (h : t e (fun s => ta e (fun y => match y with
    | .p (.int z) => ∃ l j, L2.ixN ls.length z = some j ∧ ls[j]? = some l ∧ tb e (fun k => match k with
      | .p (.int z') => ∃ j', L2.ixN l.length z' = some j' ∧ D.nx (e.set i (some (.l2 (ls.set j (l.set j' s.fz)))))
      | _ => False) D.ex
    | _ => False) D.ex) D.ex) : rSt2 i ta tb t D e := by
  unfold rSt2
  rw [hs]
  exact h
theorem ixN_n {n k : Nat} (h : k < n) : L2.ixN n (k : Int) = some k := by
  unfold L2.ixN
  rw [if_pos (by omega), if_pos (by omega)]
  simp
end TLY

namespace K36
open PySem PySem.Spec PyProof.Rows L2 TLY
/-! ### the text -/
def topS (i : Nat) : Stmt := PySem.Challenge.pw_tableauproved_k36_whole_hives_and_border.main.body.getD i (.Pass ⟨0, 0, 0, 0⟩)
abbrev s_is_number : Stmt := topS 3
abbrev s_rhombi : Stmt := topS 7
abbrev s_sides_of : Stmt := topS 8
abbrev s_diamonds : Stmt := topS 9
abbrev s_at_place : Stmt := topS 10
abbrev s_is_hive : Stmt := topS 11
abbrev s_check_hive : Stmt := topS 12
abbrev s_border : Stmt := topS 13
abbrev s_turned_hive : Stmt := topS 14
abbrev s__law_pool : Stmt := topS 16
abbrev s__law_take : Stmt := topS 17
abbrev s__law_pick : Stmt := topS 18
abbrev s__law_is_integer : Stmt := topS 19
abbrev s__law_same : Stmt := topS 20
abbrev s__law_below : Stmt := topS 21
abbrev s__law_given : Stmt := topS 22
abbrev s__law_diamonds : Stmt := topS 23
abbrev s__law_keeps : Stmt := topS 24
abbrev s__law_is_hive : Stmt := topS 25
abbrev s__law_border : Stmt := topS 26
abbrev s__law_turned : Stmt := topS 27
abbrev s__law_fall : Stmt := topS 28
abbrev s__law_straight : Stmt := topS 29
abbrev s__law_hive_sum : Stmt := topS 30
abbrev s__law_some_hive : Stmt := topS 31
abbrev s__law_raised : Stmt := topS 32
abbrev s__law_handed : Stmt := topS 33
abbrev s__law_spoilt : Stmt := topS 34
abbrev s_law : Stmt := topS 35
structure Txt (K : PySem.W.Frag) (mg : Str → Option Value) where
  d_is_number : DefAt K mg "is_number" s_is_number ["value"]
  d_rhombi : DefAt K mg "rhombi" s_rhombi ["n"]
  d_sides_of : DefAt K mg "sides_of" s_sides_of ["rhombus"]
  d_diamonds : DefAt K mg "diamonds" s_diamonds ["n"]
  d_at_place : DefAt K mg "at_place" s_at_place ["hive", "place"]
  d_is_hive : DefAt K mg "is_hive" s_is_hive ["hive"]
  d_check_hive : DefAt K mg "check_hive" s_check_hive ["hive"]
  d_border : DefAt K mg "border" s_border ["hive"]
  d_turned_hive : DefAt K mg "turned_hive" s_turned_hive ["hive"]
  d__law_pool : DefAt K mg "_law_pool" s__law_pool ["script"]
  d__law_take : DefAt K mg "_law_take" s__law_take ["pool", "many"]
  d__law_pick : DefAt K mg "_law_pick" s__law_pick ["pool", "rows"]
  d__law_is_integer : DefAt K mg "_law_is_integer" s__law_is_integer ["actual"]
  d__law_same : DefAt K mg "_law_same" s__law_same ["actual", "due"]
  d__law_below : DefAt K mg "_law_below" s__law_below ["pool", "many"]
  d__law_given : DefAt K mg "_law_given" s__law_given ["pool", "row"]
  d__law_diamonds : DefAt K mg "_law_diamonds" s__law_diamonds ["n"]
  d__law_keeps : DefAt K mg "_law_keeps" s__law_keeps ["hive"]
  d__law_is_hive : DefAt K mg "_law_is_hive" s__law_is_hive ["thing"]
  d__law_border : DefAt K mg "_law_border" s__law_border ["hive"]
  d__law_turned : DefAt K mg "_law_turned" s__law_turned ["hive"]
  d__law_fall : DefAt K mg "_law_fall" s__law_fall ["pool", "n", "size"]
  d__law_straight : DefAt K mg "_law_straight" s__law_straight ["one", "other"]
  d__law_hive_sum : DefAt K mg "_law_hive_sum" s__law_hive_sum ["one", "other"]
  d__law_some_hive : DefAt K mg "_law_some_hive" s__law_some_hive ["pool", "n", "size"]
  d__law_raised : DefAt K mg "_law_raised" s__law_raised ["call", "thing"]
  d__law_handed : DefAt K mg "_law_handed" s__law_handed ["pool", "hive"]
  d__law_spoilt : DefAt K mg "_law_spoilt" s__law_spoilt ["pool", "hive"]
  d_law : DefAt K mg "law" s_law ["script"]
  n_all : mg "all" = none
  n_any : mg "any" = none
  n_bool : mg "bool" = none
  n_enumerate : mg "enumerate" = none
  n_int : mg "int" = none
  n_isinstance : mg "isinstance" = none
  n_len : mg "len" = none
  n_list : mg "list" = none
  n_range : mg "range" = none
  n_sorted : mg "sorted" = none
  n_str : mg "str" = none
  n_sum : mg "sum" = none
  n_tuple : mg "tuple" = none
  k_MOST : Tok
  c_MOST : mg "MOST" = some (.int 6 k_MOST)
  k_ShapeError : ExcAt K mg "ShapeError"
  k_BadHive : ExcAt K mg "BadHive"
  e_BadHive_ShapeError : PySem.W.exmOne K (.ref k_BadHive.C) (.ref k_ShapeError.C) = some true
section
variable {P : Program} {w : World} {K : PySem.W.Frag} {mg : Str → Option Value} {base : Heap}
/-! is_number -/
abbrev N_is_number : List Str := ["value"]
theorem sc_is_number : FnScope N_is_number ["value"] (defScope s_is_number) := ⟨rfl, rfl, rfl, by decide +kernel, rfl, by decide +kernel, by decide +kernel⟩
def t_is_number : RS := (rRet (rAnd (rIsI ["int"] (rSlot 0)) (rUn fNot (rIsI ["bool"] (rSlot 0)))))
theorem ok_is_number (T : Txt K mg) {k : Nat} :
    FnOk P w K mg base (L2.CX P w) (k + 1) T.d_is_number.f T.d_is_number.fd ["value"] (spOf K (specOf N_is_number 1 (t_is_number))) :=
  fn_ok T.d_is_number.F sc_is_number fun cdv A outer s H E hr =>
    have hu := hr.units
    (svs_one (sv_ret (ve_and (ve_isi1 (be_var 0) (pe_bltn_ty T.n_int (by decide +kernel)) T.n_isinstance) (ve_one (ve_not ((ve_isi1 (be_var 0) (pe_bltn_ty T.n_bool (by decide +kernel)) T.n_isinstance)).be)))))

/-! rhombi -/
abbrev N_rhombi : List Str := ["n", "found", "j", "i"]
theorem sc_rhombi : FnScope N_rhombi ["n"] (defScope s_rhombi) := ⟨rfl, rfl, rfl, by decide +kernel, rfl, by decide +kernel, by decide +kernel⟩
def t_rhombi : RS := (rSeq (rAsg 1 (rLst fNil))
    (rSeq (rFor (iR1 (rOp fAdd (rSlot 0) (rC (.int 1)))) (gN 2) (rFor (iR1 (rOp fSub (rOp fAdd (rSlot 0) (rC (.int 1))) (rSlot 2))) (gN 3) (rSeq (rIfS (tOpT fLe (rOp fAdd (rOp fAdd (rSlot 3) (rSlot 2)) (rC (.int 2))) (rSlot 0)) (rApp 1 (rTup (fCons (rC (.int 0)) (fCons (rVar 3) (fCons (rVar 2) fNil))))) rNext)
    (rSeq (rIfS (tAndR (tOpT fGe (rSlot 3) (rC (.int 1))) (tOpT fLe (rOp fAdd (rOp fAdd (rSlot 3) (rSlot 2)) (rC (.int 1))) (rSlot 0))) (rApp 1 (rTup (fCons (rC (.int 1)) (fCons (rVar 3) (fCons (rVar 2) fNil))))) rNext)
    (rIfS (tAndR (tOpT fGe (rSlot 2) (rC (.int 1))) (tOpT fLe (rOp fAdd (rOp fAdd (rSlot 3) (rSlot 2)) (rC (.int 1))) (rSlot 0))) (rApp 1 (rTup (fCons (rC (.int 2)) (fCons (rVar 3) (fCons (rVar 2) fNil))))) rNext)))))
    (rRetV 1)))
theorem ok_rhombi (T : Txt K mg) {k : Nat} :
    FnOk P w K mg base (L2.CX P w) (k + 1) T.d_rhombi.f T.d_rhombi.fd ["n"] (spOf K (specOf N_rhombi 1 (t_rhombi))) :=
  fn_ok T.d_rhombi.F sc_rhombi fun cdv A outer s H E hr =>
    have hu := hr.units
    (svs_cons (sv_set 1 (ve_lst fa_nil) sc_rhombi.nd)
    (svs_cons (sv_for (vs := [2]) (passes_of rfl) rfl (vi_range1 ((ve_add (be_var 0) (ve_int).be)).be T.n_range) (pg_name (i := 2) sc_rhombi.nd rfl (by first | exact Or.inl rfl | exact Or.inr rfl)) (tgT_name (by simp)) (svs_one (sv_for (vs := [3]) (passes_of rfl) rfl (vi_range1 ((ve_sub ((ve_add (be_var 0) (ve_int).be)).be (be_var 2))).be T.n_range) (pg_name (i := 3) sc_rhombi.nd rfl (by first | exact Or.inl rfl | exact Or.inr rfl)) (tgT_name (by simp)) (svs_cons (sv_if (vt_c cLe ((ve_add ((ve_add (be_var 3) (be_var 2))).be (ve_int).be)).be (be_var 0)) (svs_one (sv_app 1 (pe_bm PySem.F.plainAttrs_list PySem.F.slot_list_append PySem.F.type_list_append mt_append (pv 1) (pa_cons ((ve_tup (fa_cons ve_int (fa_cons (ve_var 3) (fa_cons (ve_var 2) fa_nil))))).run pa_nil)))) svs_nil)
    (svs_cons (sv_if ((vw_and (vt_c cGe (be_var 3) (ve_int).be) (vw_and1 (vt_c cLe ((ve_add ((ve_add (be_var 3) (be_var 2))).be (ve_int).be)).be (be_var 0))))).vt (svs_one (sv_app 1 (pe_bm PySem.F.plainAttrs_list PySem.F.slot_list_append PySem.F.type_list_append mt_append (pv 1) (pa_cons ((ve_tup (fa_cons ve_int (fa_cons (ve_var 3) (fa_cons (ve_var 2) fa_nil))))).run pa_nil)))) svs_nil)
    (svs_one (sv_if ((vw_and (vt_c cGe (be_var 2) (ve_int).be) (vw_and1 (vt_c cLe ((ve_add ((ve_add (be_var 3) (be_var 2))).be (ve_int).be)).be (be_var 0))))).vt (svs_one (sv_app 1 (pe_bm PySem.F.plainAttrs_list PySem.F.slot_list_append PySem.F.type_list_append mt_append (pv 1) (pa_cons ((ve_tup (fa_cons ve_int (fa_cons (ve_var 3) (fa_cons (ve_var 2) fa_nil))))).run pa_nil)))) svs_nil)))))))
    (svs_one (sv_retV 1))))

/-! sides_of -/
abbrev N_sides_of : List Str := ["rhombus", "kind", "i", "j"]
theorem sc_sides_of : FnScope N_sides_of ["rhombus"] (defScope s_sides_of) := ⟨rfl, rfl, rfl, by decide +kernel, rfl, by decide +kernel, by decide +kernel⟩
def t_sides_of : RS := (rSeq (rAsgG (gTs [1, 2, 3]) (rVar 0))
    (rSeq (rIfS (tOpT fEq (rSlot 1) (rC (.int 0))) (rRet (rTup (fCons (rTup (fCons (rOp fAdd (rSlot 2) (rC (.int 1))) (fCons (rVar 3) fNil))) (fCons (rTup (fCons (rVar 2) (fCons (rOp fAdd (rSlot 3) (rC (.int 1))) fNil))) (fCons (rTup (fCons (rVar 2) (fCons (rVar 3) fNil))) (fCons (rTup (fCons (rOp fAdd (rSlot 2) (rC (.int 1))) (fCons (rOp fAdd (rSlot 3) (rC (.int 1))) fNil))) fNil)))))) rNext)
    (rSeq (rIfS (tOpT fEq (rSlot 1) (rC (.int 1))) (rRet (rTup (fCons (rTup (fCons (rVar 2) (fCons (rVar 3) fNil))) (fCons (rTup (fCons (rVar 2) (fCons (rOp fAdd (rSlot 3) (rC (.int 1))) fNil))) (fCons (rTup (fCons (rOp fAdd (rSlot 2) (rC (.int 1))) (fCons (rVar 3) fNil))) (fCons (rTup (fCons (rOp fSub (rSlot 2) (rC (.int 1))) (fCons (rOp fAdd (rSlot 3) (rC (.int 1))) fNil))) fNil)))))) rNext)
    (rRet (rTup (fCons (rTup (fCons (rVar 2) (fCons (rVar 3) fNil))) (fCons (rTup (fCons (rOp fAdd (rSlot 2) (rC (.int 1))) (fCons (rVar 3) fNil))) (fCons (rTup (fCons (rVar 2) (fCons (rOp fAdd (rSlot 3) (rC (.int 1))) fNil))) (fCons (rTup (fCons (rOp fAdd (rSlot 2) (rC (.int 1))) (fCons (rOp fSub (rSlot 3) (rC (.int 1))) fNil))) fNil)))))))))
theorem ok_sides_of (T : Txt K mg) {k : Nat} :
    FnOk P w K mg base (L2.CX P w) (k + 1) T.d_sides_of.f T.d_sides_of.fd ["rhombus"] (spOf K (specOf N_sides_of 1 (t_sides_of))) :=
  fn_ok T.d_sides_of.F sc_sides_of fun cdv A outer s H E hr =>
    have hu := hr.units
    (svs_cons (sv_asg (vs := [1, 2, 3]) (ve_var 0) (pg_tl rfl (pgs_cons (pg_name (i := 1) sc_sides_of.nd rfl (by first | exact Or.inl rfl | exact Or.inr rfl)) (pgs_cons (pg_name (i := 2) sc_sides_of.nd rfl (by first | exact Or.inl rfl | exact Or.inr rfl)) (pgs_cons (pg_name (i := 3) sc_sides_of.nd rfl (by first | exact Or.inl rfl | exact Or.inr rfl)) pgs_nil)))) (tgT_tup (is := [1, 2, 3]) (by simp) rfl))
    (svs_cons (sv_if (vt_c (cEq hu) (be_var 1) (ve_int).be) (svs_one (sv_ret (ve_tup (fa_cons (ve_tup (fa_cons (ve_add (be_var 2) (ve_int).be) (fa_cons (ve_var 3) fa_nil))) (fa_cons (ve_tup (fa_cons (ve_var 2) (fa_cons (ve_add (be_var 3) (ve_int).be) fa_nil))) (fa_cons (ve_tup (fa_cons (ve_var 2) (fa_cons (ve_var 3) fa_nil))) (fa_cons (ve_tup (fa_cons (ve_add (be_var 2) (ve_int).be) (fa_cons (ve_add (be_var 3) (ve_int).be) fa_nil))) fa_nil))))))) svs_nil)
    (svs_cons (sv_if (vt_c (cEq hu) (be_var 1) (ve_int).be) (svs_one (sv_ret (ve_tup (fa_cons (ve_tup (fa_cons (ve_var 2) (fa_cons (ve_var 3) fa_nil))) (fa_cons (ve_tup (fa_cons (ve_var 2) (fa_cons (ve_add (be_var 3) (ve_int).be) fa_nil))) (fa_cons (ve_tup (fa_cons (ve_add (be_var 2) (ve_int).be) (fa_cons (ve_var 3) fa_nil))) (fa_cons (ve_tup (fa_cons (ve_sub (be_var 2) (ve_int).be) (fa_cons (ve_add (be_var 3) (ve_int).be) fa_nil))) fa_nil))))))) svs_nil)
    (svs_one (sv_ret (ve_tup (fa_cons (ve_tup (fa_cons (ve_var 2) (fa_cons (ve_var 3) fa_nil))) (fa_cons (ve_tup (fa_cons (ve_add (be_var 2) (ve_int).be) (fa_cons (ve_var 3) fa_nil))) (fa_cons (ve_tup (fa_cons (ve_var 2) (fa_cons (ve_add (be_var 3) (ve_int).be) fa_nil))) (fa_cons (ve_tup (fa_cons (ve_add (be_var 2) (ve_int).be) (fa_cons (ve_sub (be_var 3) (ve_int).be) fa_nil))) fa_nil))))))))))

/-! diamonds -/
abbrev N_diamonds : List Str := ["n", "rhombus"]
theorem sc_diamonds : FnScope N_diamonds ["n"] (defScope s_diamonds) := ⟨rfl, rfl, rfl, by decide +kernel, rfl, by decide +kernel, by decide +kernel⟩
def t_diamonds (sp_rhombi : FSpec) (sp_sides_of : FSpec) : RS := (rRet (rLc (iSeq (rCallU sp_rhombi (fCons (rVar 0) fNil))) (gN 1) rYes (rCallU sp_sides_of (fCons (rVar 1) fNil)) [1]))
theorem ok_diamonds (T : Txt K mg) {k : Nat} {sp_rhombi : FSpec} {sp_sides_of : FSpec}
    (G_rhombi : FnOk P w K mg base (L2.CX P w) k T.d_rhombi.f T.d_rhombi.fd ["n"] (spOf K sp_rhombi))
    (G_sides_of : FnOk P w K mg base (L2.CX P w) k T.d_sides_of.f T.d_sides_of.fd ["rhombus"] (spOf K sp_sides_of)) :
    FnOk P w K mg base (L2.CX P w) (k + 1) T.d_diamonds.f T.d_diamonds.fd ["n"] (spOf K (specOf N_diamonds 1 (t_diamonds sp_rhombi sp_sides_of))) :=
  fn_ok T.d_diamonds.F sc_diamonds fun cdv A outer s H E hr =>
    have hu := hr.units
    (svs_one (sv_ret (ve_lc (own := [("rhombus", 1)]) rfl sc_diamonds.nd (vi_seq (ve_u T.d_rhombi (takes_of rfl rfl rfl rfl) hr G_rhombi (fa_cons (ve_var 0) fa_nil))) (blkOk_by (N := N_diamonds) (sc := defScope s_diamonds) (by decide +kernel)) (fun _ _ _ _ _ => (pg_name (i := 1) sc_diamonds.nd rfl (by first | exact Or.inl rfl | exact Or.inr rfl))) (tgT_name (by simp)) (fun _ _ _ _ _ => vts_nil) (fun _ _ _ _ _ => (ve_u T.d_sides_of takes0 hr G_sides_of (fa_cons (ve_var 1) fa_nil))))))

/-! at_place -/
abbrev N_at_place : List Str := ["hive", "place"]
theorem sc_at_place : FnScope N_at_place ["hive", "place"] (defScope s_at_place) := ⟨rfl, rfl, rfl, by decide +kernel, rfl, by decide +kernel, by decide +kernel⟩
def t_at_place : RS := (rRet (rOp fIx (rOp fIxB (rSlot 0) (rOp fIxB (rSlot 1) (rC (.int 1)))) (rOp fIxB (rSlot 1) (rC (.int 0)))))
theorem ok_at_place (T : Txt K mg) {k : Nat} :
    FnOk P w K mg base (L2.CX P w) (k + 1) T.d_at_place.f T.d_at_place.fd ["hive", "place"] (spOf K (specOf N_at_place 2 (t_at_place))) :=
  fn_ok T.d_at_place.F sc_at_place fun cdv A outer s H E hr =>
    have hu := hr.units
    (svs_one (sv_ret (ve_ix (be_ix (be_var 0) (be_ix (be_var 1) (ve_int).be)) (be_ix (be_var 1) (ve_int).be))))

/-! is_hive -/
abbrev N_is_hive : List Str := ["hive", "number", "row", "one", "other", "less", "least", "part"]
theorem sc_is_hive : FnScope N_is_hive ["hive"] (defScope s_is_hive) := ⟨rfl, rfl, rfl, by decide +kernel, rfl, by decide +kernel, by decide +kernel⟩
def t_is_hive (sp_at_place : FSpec) (sp_diamonds : FSpec) (sp_is_number : FSpec) : RS := (rSeq (rIfS (tOrR (tNotR (tTru (rIsI ["tuple", "list"] (rSlot 0)))) (tNotR (tChT fLe fLe (rC (.int 2)) (rCall fLen (rCons (rSlot 0) rNil)) (rOp fAdd (rC (.int 6)) (rC (.int 1)))))) (rRet (rC (.bl false))) rNext)
    (rSeq (rFor (iEnumR (rVar 0)) (gTs [1, 2]) (rSeq (rIfS (tOrR (tNotR (tTru (rIsI ["tuple", "list"] (rSlot 2)))) (tOpT fNe (rCall fLen (rCons (rSlot 2) rNil)) (rOp fSub (rCall fLen (rCons (rSlot 0) rNil)) (rSlot 1)))) (rRet (rC (.bl false))) rNext)
    (rIfS (tNotR (tTru (rCall fAll (rCons (rLc (iSeq (rVar 2)) (gN 7) rYes (rCallU sp_is_number (fCons (rVar 7) fNil)) [7]) rNil)))) (rRet (rC (.bl false))) rNext)))
    (rSeq (rIfS (tOpT fNe (rOp fIxB (rOp fIxB (rSlot 0) (rC (.int 0))) (rC (.int 0))) (rC (.int 0))) (rRet (rC (.bl false))) rNext)
    (rSeq (rFor (iSeq (rCallU sp_diamonds (fCons (rOp fSub (rCall fLen (rCons (rSlot 0) rNil)) (rC (.int 1))) fNil))) (gTs [3, 4, 5, 6]) (rIfS (tOpT fLt (rOp fAdd (rCallU sp_at_place (fCons (rVar 0) (fCons (rVar 3) fNil))) (rCallU sp_at_place (fCons (rVar 0) (fCons (rVar 4) fNil)))) (rOp fAdd (rCallU sp_at_place (fCons (rVar 0) (fCons (rVar 5) fNil))) (rCallU sp_at_place (fCons (rVar 0) (fCons (rVar 6) fNil))))) (rRet (rC (.bl false))) rNext))
    (rRet (rC (.bl true)))))))
theorem ok_is_hive (T : Txt K mg) {k : Nat} {sp_at_place : FSpec} {sp_diamonds : FSpec} {sp_is_number : FSpec}
    (G_at_place : FnOk P w K mg base (L2.CX P w) k T.d_at_place.f T.d_at_place.fd ["hive", "place"] (spOf K sp_at_place))
    (G_diamonds : FnOk P w K mg base (L2.CX P w) k T.d_diamonds.f T.d_diamonds.fd ["n"] (spOf K sp_diamonds))
    (G_is_number : FnOk P w K mg base (L2.CX P w) k T.d_is_number.f T.d_is_number.fd ["value"] (spOf K sp_is_number)) :
    FnOk P w K mg base (L2.CX P w) (k + 1) T.d_is_hive.f T.d_is_hive.fd ["hive"] (spOf K (specOf N_is_hive 1 (t_is_hive sp_at_place sp_diamonds sp_is_number))) :=
  fn_ok T.d_is_hive.F sc_is_hive fun cdv A outer s H E hr =>
    have hu := hr.units
    (svs_cons (sv_if ((vw_or (vt_not (vt_truth ((ve_isi2 (be_var 0) (pe_bltn_ty T.n_tuple (by decide +kernel)) (pe_bltn_ty T.n_list (by decide +kernel)) T.n_isinstance)).be)) (vw_or1 (vt_not (vt_cc cLe cLe (ve_int).be ((ve_callB call_len callT_len T.n_len (by decide +kernel) (ba_cons (be_var 0) ba_nil))).be ((ve_add ((ve_gint T.c_MOST)).be (ve_int).be)).be))))).vt (svs_one (sv_ret ve_bl)) svs_nil)
    (svs_cons (sv_for (vs := [1, 2]) (passes_of rfl) rfl (vi_enum (ve_var 0) T.n_enumerate) (pg_tl rfl (pgs_cons (pg_name (i := 1) sc_is_hive.nd rfl (by first | exact Or.inl rfl | exact Or.inr rfl)) (pgs_cons (pg_name (i := 2) sc_is_hive.nd rfl (by first | exact Or.inl rfl | exact Or.inr rfl)) pgs_nil))) (tgT_tup (is := [1, 2]) (by simp) rfl) (svs_cons (sv_if ((vw_or (vt_not (vt_truth ((ve_isi2 (be_var 2) (pe_bltn_ty T.n_tuple (by decide +kernel)) (pe_bltn_ty T.n_list (by decide +kernel)) T.n_isinstance)).be)) (vw_or1 (vt_c (cNe hu) ((ve_callB call_len callT_len T.n_len (by decide +kernel) (ba_cons (be_var 2) ba_nil))).be ((ve_sub ((ve_callB call_len callT_len T.n_len (by decide +kernel) (ba_cons (be_var 0) ba_nil))).be (be_var 1))).be)))).vt (svs_one (sv_ret ve_bl)) svs_nil)
    (svs_one (sv_if (vt_not (vt_truth ((ve_callB (cr_all rfl) callT_all T.n_all (by decide +kernel) (ba_cons ((ve_lc (own := [("part", 7)]) rfl sc_is_hive.nd (vi_seq (ve_var 2)) (blkOk_by (N := N_is_hive) (sc := defScope s_is_hive) (by decide +kernel)) (fun _ _ _ _ _ => (pg_name (i := 7) sc_is_hive.nd rfl (by first | exact Or.inl rfl | exact Or.inr rfl))) (tgT_name (by simp)) (fun _ _ _ _ _ => vts_nil) (fun _ _ _ _ _ => (ve_u T.d_is_number takes0 hr G_is_number (fa_cons (ve_var 7) fa_nil))))).be ba_nil))).be)) (svs_one (sv_ret ve_bl)) svs_nil))))
    (svs_cons (sv_if (vt_c (cNe hu) (be_ix (be_ix (be_var 0) (ve_int).be) (ve_int).be) (ve_int).be) (svs_one (sv_ret ve_bl)) svs_nil)
    (svs_cons (sv_for (vs := [3, 4, 5, 6]) (passes_of rfl) rfl (vi_seq (ve_u T.d_diamonds (takes_of rfl rfl rfl rfl) hr G_diamonds (fa_cons (ve_sub ((ve_callB call_len callT_len T.n_len (by decide +kernel) (ba_cons (be_var 0) ba_nil))).be (ve_int).be) fa_nil))) (pg_tl rfl (pgs_cons (pg_name (i := 3) sc_is_hive.nd rfl (by first | exact Or.inl rfl | exact Or.inr rfl)) (pgs_cons (pg_name (i := 4) sc_is_hive.nd rfl (by first | exact Or.inl rfl | exact Or.inr rfl)) (pgs_cons (pg_name (i := 5) sc_is_hive.nd rfl (by first | exact Or.inl rfl | exact Or.inr rfl)) (pgs_cons (pg_name (i := 6) sc_is_hive.nd rfl (by first | exact Or.inl rfl | exact Or.inr rfl)) pgs_nil))))) (tgT_tup (is := [3, 4, 5, 6]) (by simp) rfl) (svs_one (sv_if (vt_c cLt ((ve_add ((ve_u T.d_at_place (takes_of rfl rfl rfl rfl) hr G_at_place (fa_cons (ve_var 0) (fa_cons (ve_var 3) fa_nil)))).be ((ve_u T.d_at_place (takes_of rfl rfl rfl rfl) hr G_at_place (fa_cons (ve_var 0) (fa_cons (ve_var 4) fa_nil)))).be)).be ((ve_add ((ve_u T.d_at_place (takes_of rfl rfl rfl rfl) hr G_at_place (fa_cons (ve_var 0) (fa_cons (ve_var 5) fa_nil)))).be ((ve_u T.d_at_place (takes_of rfl rfl rfl rfl) hr G_at_place (fa_cons (ve_var 0) (fa_cons (ve_var 6) fa_nil)))).be)).be) (svs_one (sv_ret ve_bl)) svs_nil)))
    (svs_one (sv_ret ve_bl))))))

/-! check_hive -/
abbrev N_check_hive : List Str := ["hive"]
theorem sc_check_hive : FnScope N_check_hive ["hive"] (defScope s_check_hive) := ⟨rfl, rfl, rfl, by decide +kernel, rfl, by decide +kernel, by decide +kernel⟩
def t_check_hive (K : PySem.W.Frag) (c_BadHive : Addr) (sp_is_hive : FSpec) : RS := (rIfS (tNotR (tTru (rCallU sp_is_hive (fCons (rVar 0) fNil)))) (rRaise c_BadHive) rNext)
theorem ok_check_hive (T : Txt K mg) {k : Nat} {sp_is_hive : FSpec}
    (G_is_hive : FnOk P w K mg base (L2.CX P w) k T.d_is_hive.f T.d_is_hive.fd ["hive"] (spOf K sp_is_hive)) :
    FnOk P w K mg base (L2.CX P w) (k + 1) T.d_check_hive.f T.d_check_hive.fd ["hive"] (spOf K (specOf N_check_hive 1 (t_check_hive K T.k_BadHive.C sp_is_hive))) :=
  fn_ok T.d_check_hive.F sc_check_hive fun cdv A outer s H E hr =>
    have hu := hr.units
    (svs_one (sv_if (vt_not (vt_truth ((ve_u T.d_is_hive (takes_of rfl rfl rfl rfl) hr G_is_hive (fa_cons (ve_var 0) fa_nil))).be)) (svs_one (sv_raise rfl (takes_of rfl rfl rfl rfl) (T.k_BadHive.pmk rfl) (fun _ _ _ h => h))) svs_nil))

/-! border -/
abbrev N_border : List Str := ["hive", "n", "first", "second", "third", "i", "j"]
theorem sc_border : FnScope N_border ["hive"] (defScope s_border) := ⟨rfl, rfl, rfl, by decide +kernel, rfl, by decide +kernel, by decide +kernel⟩
def t_border (sp_check_hive : FSpec) : RS := (rSeq (rDrop (rCallU sp_check_hive (fCons (rVar 0) fNil)))
    (rSeq (rAsg 1 (rOp fSub (rCall fLen (rCons (rSlot 0) rNil)) (rC (.int 1))))
    (rSeq (rAsg 2 (rLc (iR2 (rC (.int 1)) (rOp fAdd (rSlot 1) (rC (.int 1)))) (gN 5) rYes (rOp fSub (rOp fIxB (rOp fIxB (rSlot 0) (rC (.int 0))) (rSlot 5)) (rOp fIxB (rOp fIxB (rSlot 0) (rC (.int 0))) (rOp fSub (rSlot 5) (rC (.int 1))))) [5]))
    (rSeq (rAsg 3 (rLc (iR2 (rC (.int 1)) (rOp fAdd (rSlot 1) (rC (.int 1)))) (gN 6) rYes (rOp fSub (rOp fIxB (rOp fIxB (rSlot 0) (rSlot 6)) (rOp fSub (rSlot 1) (rSlot 6))) (rOp fIxB (rOp fIxB (rSlot 0) (rOp fSub (rSlot 6) (rC (.int 1)))) (rOp fAdd (rOp fSub (rSlot 1) (rSlot 6)) (rC (.int 1))))) [6]))
    (rSeq (rAsg 4 (rLc (iR2 (rC (.int 1)) (rOp fAdd (rSlot 1) (rC (.int 1)))) (gN 6) rYes (rOp fSub (rOp fIxB (rOp fIxB (rSlot 0) (rSlot 6)) (rC (.int 0))) (rOp fIxB (rOp fIxB (rSlot 0) (rOp fSub (rSlot 6) (rC (.int 1)))) (rC (.int 0)))) [6]))
    (rRet (rTup (fCons (rCall fTuple (rCons (rSlot 2) rNil)) (fCons (rCall fTuple (rCons (rSlot 3) rNil)) (fCons (rCall fTuple (rCons (rSlot 4) rNil)) fNil))))))))))
theorem ok_border (T : Txt K mg) {k : Nat} {sp_check_hive : FSpec}
    (G_check_hive : FnOk P w K mg base (L2.CX P w) k T.d_check_hive.f T.d_check_hive.fd ["hive"] (spOf K sp_check_hive)) :
    FnOk P w K mg base (L2.CX P w) (k + 1) T.d_border.f T.d_border.fd ["hive"] (spOf K (specOf N_border 1 (t_border sp_check_hive))) :=
  fn_ok T.d_border.F sc_border fun cdv A outer s H E hr =>
    have hu := hr.units
    (svs_cons (sv_expr (ve_u T.d_check_hive (takes_of rfl rfl rfl rfl) hr G_check_hive (fa_cons (ve_var 0) fa_nil)))
    (svs_cons (sv_set 1 (ve_sub ((ve_callB call_len callT_len T.n_len (by decide +kernel) (ba_cons (be_var 0) ba_nil))).be (ve_int).be) sc_border.nd)
    (svs_cons (sv_setLc 2 (own := [("i", 5)]) rfl sc_border.nd (vi_range2 (ve_int).be ((ve_add (be_var 1) (ve_int).be)).be T.n_range) (blkOk_by (N := N_border) (sc := defScope s_border) (by decide +kernel)) (fun _ _ _ _ _ => (pg_name (i := 5) sc_border.nd rfl (by first | exact Or.inl rfl | exact Or.inr rfl))) (tgT_name (by simp)) (fun _ _ _ _ _ => vts_nil) (fun _ _ _ _ _ => (ve_sub (be_ix (be_ix (be_var 0) (ve_int).be) (be_var 5)) (be_ix (be_ix (be_var 0) (ve_int).be) ((ve_sub (be_var 5) (ve_int).be)).be))) (sw_true rfl rfl rfl (by decide +kernel)))
    (svs_cons (sv_setLc 3 (own := [("j", 6)]) rfl sc_border.nd (vi_range2 (ve_int).be ((ve_add (be_var 1) (ve_int).be)).be T.n_range) (blkOk_by (N := N_border) (sc := defScope s_border) (by decide +kernel)) (fun _ _ _ _ _ => (pg_name (i := 6) sc_border.nd rfl (by first | exact Or.inl rfl | exact Or.inr rfl))) (tgT_name (by simp)) (fun _ _ _ _ _ => vts_nil) (fun _ _ _ _ _ => (ve_sub (be_ix (be_ix (be_var 0) (be_var 6)) ((ve_sub (be_var 1) (be_var 6))).be) (be_ix (be_ix (be_var 0) ((ve_sub (be_var 6) (ve_int).be)).be) ((ve_add ((ve_sub (be_var 1) (be_var 6))).be (ve_int).be)).be))) (sw_true rfl rfl rfl (by decide +kernel)))
    (svs_cons (sv_setLc 4 (own := [("j", 6)]) rfl sc_border.nd (vi_range2 (ve_int).be ((ve_add (be_var 1) (ve_int).be)).be T.n_range) (blkOk_by (N := N_border) (sc := defScope s_border) (by decide +kernel)) (fun _ _ _ _ _ => (pg_name (i := 6) sc_border.nd rfl (by first | exact Or.inl rfl | exact Or.inr rfl))) (tgT_name (by simp)) (fun _ _ _ _ _ => vts_nil) (fun _ _ _ _ _ => (ve_sub (be_ix (be_ix (be_var 0) (be_var 6)) (ve_int).be) (be_ix (be_ix (be_var 0) ((ve_sub (be_var 6) (ve_int).be)).be) (ve_int).be))) (sw_true rfl rfl rfl (by decide +kernel)))
    (svs_one (sv_ret (ve_tup (fa_cons (ve_callTy call_tuple_of callT_tuple T.n_tuple (by decide +kernel) (ba_cons (be_var 2) ba_nil)) (fa_cons (ve_callTy call_tuple_of callT_tuple T.n_tuple (by decide +kernel) (ba_cons (be_var 3) ba_nil)) (fa_cons (ve_callTy call_tuple_of callT_tuple T.n_tuple (by decide +kernel) (ba_cons (be_var 4) ba_nil)) fa_nil)))))))))))

/-! turned_hive -/
abbrev N_turned_hive : List Str := ["hive", "n", "start", "j", "i"]
theorem sc_turned_hive : FnScope N_turned_hive ["hive"] (defScope s_turned_hive) := ⟨rfl, rfl, rfl, by decide +kernel, rfl, by decide +kernel, by decide +kernel⟩
def t_turned_hive (sp_check_hive : FSpec) : RS := (rSeq (rDrop (rCallU sp_check_hive (fCons (rVar 0) fNil)))
    (rSeq (rAsg 1 (rOp fSub (rCall fLen (rCons (rSlot 0) rNil)) (rC (.int 1))))
    (rSeq (rAsg 2 (rOp fIx (rOp fIxB (rSlot 0) (rC (.int 0))) (rSlot 1)))
    (rRet (rCall fTuple (rCons (rLc (iR1 (rOp fAdd (rSlot 1) (rC (.int 1)))) (gN 3) rYes (rCall fTuple (rCons (rLc (iR1 (rOp fSub (rOp fAdd (rSlot 1) (rC (.int 1))) (rSlot 3))) (gN 4) rYes (rOp fSub (rOp fIxB (rOp fIxB (rSlot 0) (rSlot 4)) (rOp fSub (rOp fSub (rSlot 1) (rSlot 4)) (rSlot 3))) (rSlot 2)) [4]) rNil)) [3]) rNil))))))
theorem ok_turned_hive (T : Txt K mg) {k : Nat} {sp_check_hive : FSpec}
    (G_check_hive : FnOk P w K mg base (L2.CX P w) k T.d_check_hive.f T.d_check_hive.fd ["hive"] (spOf K sp_check_hive)) :
    FnOk P w K mg base (L2.CX P w) (k + 1) T.d_turned_hive.f T.d_turned_hive.fd ["hive"] (spOf K (specOf N_turned_hive 1 (t_turned_hive sp_check_hive))) :=
  fn_ok T.d_turned_hive.F sc_turned_hive fun cdv A outer s H E hr =>
    have hu := hr.units
    (svs_cons (sv_expr (ve_u T.d_check_hive (takes_of rfl rfl rfl rfl) hr G_check_hive (fa_cons (ve_var 0) fa_nil)))
    (svs_cons (sv_set 1 (ve_sub ((ve_callB call_len callT_len T.n_len (by decide +kernel) (ba_cons (be_var 0) ba_nil))).be (ve_int).be) sc_turned_hive.nd)
    (svs_cons (sv_set 2 (ve_ix (be_ix (be_var 0) (ve_int).be) (be_var 1)) sc_turned_hive.nd)
    (svs_one (sv_ret (ve_callTy call_tuple_of callT_tuple T.n_tuple (by decide +kernel) (ba_cons ((ve_lc (own := [("j", 3)]) rfl sc_turned_hive.nd (vi_range1 ((ve_add (be_var 1) (ve_int).be)).be T.n_range) (blkOk_by (N := N_turned_hive) (sc := defScope s_turned_hive) (by decide +kernel)) (fun _ _ _ _ _ => (pg_name (i := 3) sc_turned_hive.nd rfl (by first | exact Or.inl rfl | exact Or.inr rfl))) (tgT_name (by simp)) (fun _ _ _ _ _ => vts_nil) (fun _ _ _ _ _ => (ve_callTy call_tuple_of callT_tuple T.n_tuple (by decide +kernel) (ba_cons ((ve_lc (own := [("i", 4)]) rfl sc_turned_hive.nd (vi_range1 ((ve_sub ((ve_add (be_var 1) (ve_int).be)).be (be_var 3))).be T.n_range) (by exact blkOk_by (N := N_turned_hive) (by kernel_rfl)) (fun _ _ _ _ _ => (pg_name (i := 4) sc_turned_hive.nd rfl (by first | exact Or.inl rfl | exact Or.inr rfl))) (tgT_name (by simp)) (fun _ _ _ _ _ => vts_nil) (fun _ _ _ _ _ => (ve_sub (be_ix (be_ix (be_var 0) (be_var 4)) ((ve_sub ((ve_sub (be_var 1) (be_var 4))).be (be_var 3))).be) (be_var 2))))).be ba_nil))))).be ba_nil)))))))

/-! _law_pick -/
abbrev N__law_pick : List Str := ["pool", "rows"]
theorem sc__law_pick : FnScope N__law_pick ["pool", "rows"] (defScope s__law_pick) := ⟨rfl, rfl, rfl, by decide +kernel, rfl, by decide +kernel, by decide +kernel⟩
def t__law_pick (sp__law_take : FSpec) : RS := (rRet (rOp fIx (rSlot 1) (rCallU sp__law_take (fCons (rVar 0) (fCons (rCall fLen (rCons (rSlot 1) rNil)) fNil)))))
theorem ok__law_pick (T : Txt K mg) {k : Nat} {sp__law_take : FSpec}
    (G__law_take : FnOk P w K mg base (L2.CX P w) k T.d__law_take.f T.d__law_take.fd ["pool", "many"] (spOf K sp__law_take)) :
    FnOk P w K mg base (L2.CX P w) (k + 1) T.d__law_pick.f T.d__law_pick.fd ["pool", "rows"] (spOf K (specOf N__law_pick 2 (t__law_pick sp__law_take))) :=
  fn_ok T.d__law_pick.F sc__law_pick fun cdv A outer s H E hr =>
    have hu := hr.units
    (svs_one (sv_ret (ve_ix (be_var 1) ((ve_u T.d__law_take (takes_of rfl rfl rfl rfl) hr G__law_take (fa_cons (ve_var 0) (fa_cons (ve_callB call_len callT_len T.n_len (by decide +kernel) (ba_cons (be_var 1) ba_nil)) fa_nil)))).be)))

/-! _law_is_integer -/
abbrev N__law_is_integer : List Str := ["actual"]
theorem sc__law_is_integer : FnScope N__law_is_integer ["actual"] (defScope s__law_is_integer) := ⟨rfl, rfl, rfl, by decide +kernel, rfl, by decide +kernel, by decide +kernel⟩
def t__law_is_integer : RS := (rRet (rAnd (rIsI ["int"] (rSlot 0)) (rUn fNot (rIsI ["bool"] (rSlot 0)))))
theorem ok__law_is_integer (T : Txt K mg) {k : Nat} :
    FnOk P w K mg base (L2.CX P w) (k + 1) T.d__law_is_integer.f T.d__law_is_integer.fd ["actual"] (spOf K (specOf N__law_is_integer 1 (t__law_is_integer))) :=
  fn_ok T.d__law_is_integer.F sc__law_is_integer fun cdv A outer s H E hr =>
    have hu := hr.units
    (svs_one (sv_ret (ve_and (ve_isi1 (be_var 0) (pe_bltn_ty T.n_int (by decide +kernel)) T.n_isinstance) (ve_one (ve_not ((ve_isi1 (be_var 0) (pe_bltn_ty T.n_bool (by decide +kernel)) T.n_isinstance)).be)))))

/-! _law_same -/
abbrev N__law_same : List Str := ["actual", "due", "k"]
theorem sc__law_same : FnScope N__law_same ["actual", "due"] (defScope s__law_same) := ⟨rfl, rfl, rfl, by decide +kernel, rfl, by decide +kernel, by decide +kernel⟩
def t__law_same (sp__law_is_integer : FSpec) (sp__law_same : FSpec) : RS := (rSeq (rIfS (tTru (rIsI ["tuple"] (rSlot 1))) (rSeq (rIfS (tOrR (tNotR (tTru (rIsI ["tuple"] (rSlot 0)))) (tOpT fNe (rCall fLen (rCons (rSlot 0) rNil)) (rCall fLen (rCons (rSlot 1) rNil)))) (rRet (rC (.bl false))) rNext)
    (rRet (rCall fAll (rCons (rLc (iR1 (rCall fLen (rCons (rSlot 1) rNil))) (gN 2) rYes (rCallU sp__law_same (fCons (rOp fIx (rSlot 0) (rSlot 2)) (fCons (rOp fIx (rSlot 1) (rSlot 2)) fNil))) [2]) rNil)))) rNext)
    (rSeq (rIfS (tTru (rIsI ["list"] (rSlot 1))) (rSeq (rIfS (tOrR (tNotR (tTru (rIsI ["list"] (rSlot 0)))) (tOpT fNe (rCall fLen (rCons (rSlot 0) rNil)) (rCall fLen (rCons (rSlot 1) rNil)))) (rRet (rC (.bl false))) rNext)
    (rRet (rCall fAll (rCons (rLc (iR1 (rCall fLen (rCons (rSlot 1) rNil))) (gN 2) rYes (rCallU sp__law_same (fCons (rOp fIx (rSlot 0) (rSlot 2)) (fCons (rOp fIx (rSlot 1) (rSlot 2)) fNil))) [2]) rNil)))) rNext)
    (rSeq (rIfS (tOpT fIsN (rSlot 1) (rC .non)) (rRet (rOp fIsN (rSlot 0) (rC .non))) rNext)
    (rSeq (rIfS (tTru (rIsI ["bool"] (rSlot 1))) (rRet (rAnd (rIsI ["bool"] (rSlot 0)) (rOp fEq (rSlot 0) (rSlot 1)))) rNext)
    (rSeq (rIfS (tTru (rIsI ["str"] (rSlot 1))) (rRet (rAnd (rIsI ["str"] (rSlot 0)) (rOp fEq (rSlot 0) (rSlot 1)))) rNext)
    (rRet (rAnd (rCallU sp__law_is_integer (fCons (rVar 0) fNil)) (rOp fEq (rSlot 0) (rSlot 1)))))))))
theorem ok__law_same (T : Txt K mg) {k : Nat} {sp__law_is_integer : FSpec} {sp__law_same : FSpec}
    (G__law_is_integer : FnOk P w K mg base (L2.CX P w) k T.d__law_is_integer.f T.d__law_is_integer.fd ["actual"] (spOf K sp__law_is_integer))
    (G__law_same : FnOk P w K mg base (L2.CX P w) k T.d__law_same.f T.d__law_same.fd ["actual", "due"] (spOf K sp__law_same)) :
    FnOk P w K mg base (L2.CX P w) (k + 1) T.d__law_same.f T.d__law_same.fd ["actual", "due"] (spOf K (specOf N__law_same 2 (t__law_same sp__law_is_integer sp__law_same))) :=
  fn_ok T.d__law_same.F sc__law_same fun cdv A outer s H E hr =>
    have hu := hr.units
    (svs_cons (sv_if (vt_truth ((ve_isi1 (be_var 1) (pe_bltn_ty T.n_tuple (by decide +kernel)) T.n_isinstance)).be) (svs_cons (sv_if ((vw_or (vt_not (vt_truth ((ve_isi1 (be_var 0) (pe_bltn_ty T.n_tuple (by decide +kernel)) T.n_isinstance)).be)) (vw_or1 (vt_c (cNe hu) ((ve_callB call_len callT_len T.n_len (by decide +kernel) (ba_cons (be_var 0) ba_nil))).be ((ve_callB call_len callT_len T.n_len (by decide +kernel) (ba_cons (be_var 1) ba_nil))).be)))).vt (svs_one (sv_ret ve_bl)) svs_nil)
    (svs_one (sv_ret (ve_callB (cr_all rfl) callT_all T.n_all (by decide +kernel) (ba_cons ((ve_lc (own := [("k", 2)]) rfl sc__law_same.nd (vi_range1 ((ve_callB call_len callT_len T.n_len (by decide +kernel) (ba_cons (be_var 1) ba_nil))).be T.n_range) (blkOk_by (N := N__law_same) (sc := defScope s__law_same) (by decide +kernel)) (fun _ _ _ _ _ => (pg_name (i := 2) sc__law_same.nd rfl (by first | exact Or.inl rfl | exact Or.inr rfl))) (tgT_name (by simp)) (fun _ _ _ _ _ => vts_nil) (fun _ _ _ _ _ => (ve_u T.d__law_same takes0 hr G__law_same (fa_cons (ve_ix (be_var 0) (be_var 2)) (fa_cons (ve_ix (be_var 1) (be_var 2)) fa_nil)))))).be ba_nil))))) svs_nil)
    (svs_cons (sv_if (vt_truth ((ve_isi1 (be_var 1) (pe_bltn_ty T.n_list (by decide +kernel)) T.n_isinstance)).be) (svs_cons (sv_if ((vw_or (vt_not (vt_truth ((ve_isi1 (be_var 0) (pe_bltn_ty T.n_list (by decide +kernel)) T.n_isinstance)).be)) (vw_or1 (vt_c (cNe hu) ((ve_callB call_len callT_len T.n_len (by decide +kernel) (ba_cons (be_var 0) ba_nil))).be ((ve_callB call_len callT_len T.n_len (by decide +kernel) (ba_cons (be_var 1) ba_nil))).be)))).vt (svs_one (sv_ret ve_bl)) svs_nil)
    (svs_one (sv_ret (ve_callB (cr_all rfl) callT_all T.n_all (by decide +kernel) (ba_cons ((ve_lc (own := [("k", 2)]) rfl sc__law_same.nd (vi_range1 ((ve_callB call_len callT_len T.n_len (by decide +kernel) (ba_cons (be_var 1) ba_nil))).be T.n_range) (blkOk_by (N := N__law_same) (sc := defScope s__law_same) (by decide +kernel)) (fun _ _ _ _ _ => (pg_name (i := 2) sc__law_same.nd rfl (by first | exact Or.inl rfl | exact Or.inr rfl))) (tgT_name (by simp)) (fun _ _ _ _ _ => vts_nil) (fun _ _ _ _ _ => (ve_u T.d__law_same takes0 hr G__law_same (fa_cons (ve_ix (be_var 0) (be_var 2)) (fa_cons (ve_ix (be_var 1) (be_var 2)) fa_nil)))))).be ba_nil))))) svs_nil)
    (svs_cons (sv_if (vt_c cIs (be_var 1) (ve_non).be) (svs_one (sv_ret (ve_c cIs (be_var 0) (ve_non).be))) svs_nil)
    (svs_cons (sv_if (vt_truth ((ve_isi1 (be_var 1) (pe_bltn_ty T.n_bool (by decide +kernel)) T.n_isinstance)).be) (svs_one (sv_ret (ve_and (ve_isi1 (be_var 0) (pe_bltn_ty T.n_bool (by decide +kernel)) T.n_isinstance) (ve_one (ve_c (cEq hu) (be_var 0) (be_var 1)))))) svs_nil)
    (svs_cons (sv_if (vt_truth ((ve_isi1 (be_var 1) (pe_bltn_ty T.n_str (by decide +kernel)) T.n_isinstance)).be) (svs_one (sv_ret (ve_and (ve_isi1 (be_var 0) (pe_bltn_ty T.n_str (by decide +kernel)) T.n_isinstance) (ve_one (ve_c (cEq hu) (be_var 0) (be_var 1)))))) svs_nil)
    (svs_one (sv_ret (ve_and (ve_u T.d__law_is_integer (takes_of rfl rfl rfl rfl) hr G__law_is_integer (fa_cons (ve_var 0) fa_nil)) (ve_one (ve_c (cEq hu) (be_var 0) (be_var 1)))))))))))

/-! _law_below -/
abbrev N__law_below : List Str := ["pool", "many", "found", "turn"]
theorem sc__law_below : FnScope N__law_below ["pool", "many"] (defScope s__law_below) := ⟨rfl, rfl, rfl, by decide +kernel, rfl, by decide +kernel, by decide +kernel⟩
def t__law_below (sp__law_take : FSpec) : RS := (rSeq (rAsg 2 (rC (.int 0)))
    (rSeq (rFor (iR1 (rC (.int 5))) (gN 3) (rAsg 2 (rOp fAdd (rOp fMul (rSlot 2) (rOp fPow (rC (.int 10)) (rC (.int 6)))) (rCallU sp__law_take (fCons (rVar 0) (fCons (rOp fPow (rC (.int 10)) (rC (.int 6))) fNil))))))
    (rRet (rOp fMod (rCall fInt1 (rCons (rSlot 2) rNil)) (rSlot 1)))))
theorem ok__law_below (T : Txt K mg) {k : Nat} {sp__law_take : FSpec}
    (G__law_take : FnOk P w K mg base (L2.CX P w) k T.d__law_take.f T.d__law_take.fd ["pool", "many"] (spOf K sp__law_take)) :
    FnOk P w K mg base (L2.CX P w) (k + 1) T.d__law_below.f T.d__law_below.fd ["pool", "many"] (spOf K (specOf N__law_below 2 (t__law_below sp__law_take))) :=
  fn_ok T.d__law_below.F sc__law_below fun cdv A outer s H E hr =>
    have hu := hr.units
    (svs_cons (sv_set 2 ve_int sc__law_below.nd)
    (svs_cons (sv_for (vs := [3]) (passes_of rfl) rfl (vi_range1 (ve_int).be T.n_range) (pg_name (i := 3) sc__law_below.nd rfl (by first | exact Or.inl rfl | exact Or.inr rfl)) (tgT_name (by simp)) (svs_one (sv_set 2 (ve_add ((ve_mul (be_var 2) ((ve_pow (ve_int).be (ve_int).be)).be)).be ((ve_u T.d__law_take (takes_of rfl rfl rfl rfl) hr G__law_take (fa_cons (ve_var 0) (fa_cons (ve_pow (ve_int).be (ve_int).be) fa_nil)))).be) sc__law_below.nd)))
    (svs_one (sv_ret (ve_mod ((ve_callTy call_int1 callT_int T.n_int (by decide +kernel) (ba_cons (be_var 2) ba_nil))).be (be_var 1))))))

/-! _law_given -/
abbrev N__law_given : List Str := ["pool", "row"]
theorem sc__law_given : FnScope N__law_given ["pool", "row"] (defScope s__law_given) := ⟨rfl, rfl, rfl, by decide +kernel, rfl, by decide +kernel, by decide +kernel⟩
def t__law_given (sp__law_take : FSpec) : RS := (rRet (rIf (tOpT fEq (rCallU sp__law_take (fCons (rVar 0) (fCons (rC (.int 2)) fNil))) (rC (.int 0))) (rCall fList (rCons (rSlot 1) rNil)) (rCall fTuple (rCons (rSlot 1) rNil))))
theorem ok__law_given (T : Txt K mg) {k : Nat} {sp__law_take : FSpec}
    (G__law_take : FnOk P w K mg base (L2.CX P w) k T.d__law_take.f T.d__law_take.fd ["pool", "many"] (spOf K sp__law_take)) :
    FnOk P w K mg base (L2.CX P w) (k + 1) T.d__law_given.f T.d__law_given.fd ["pool", "row"] (spOf K (specOf N__law_given 2 (t__law_given sp__law_take))) :=
  fn_ok T.d__law_given.F sc__law_given fun cdv A outer s H E hr =>
    have hu := hr.units
    (svs_one (sv_ret (ve_ifExp (vt_c (cEq hu) ((ve_u T.d__law_take (takes_of rfl rfl rfl rfl) hr G__law_take (fa_cons (ve_var 0) (fa_cons ve_int fa_nil)))).be (ve_int).be) (ve_callTy call_list_of callT_list T.n_list (by decide +kernel) (ba_cons (be_var 1) ba_nil)) (ve_callTy call_tuple_of callT_tuple T.n_tuple (by decide +kernel) (ba_cons (be_var 1) ba_nil)))))

/-! _law_diamonds -/
abbrev N__law_diamonds : List Str := ["n", "found", "j", "i"]
theorem sc__law_diamonds : FnScope N__law_diamonds ["n"] (defScope s__law_diamonds) := ⟨rfl, rfl, rfl, by decide +kernel, rfl, by decide +kernel, by decide +kernel⟩
def t__law_diamonds : RS := (rSeq (rAsg 1 (rLst fNil))
    (rSeq (rFor (iR1 (rOp fAdd (rSlot 0) (rC (.int 1)))) (gN 2) (rFor (iR1 (rOp fSub (rOp fAdd (rSlot 0) (rC (.int 1))) (rSlot 2))) (gN 3) (rSeq (rIfS (tOpT fLe (rOp fAdd (rOp fAdd (rSlot 3) (rSlot 2)) (rC (.int 2))) (rSlot 0)) (rApp 1 (rTup (fCons (rTup (fCons (rOp fAdd (rSlot 3) (rC (.int 1))) (fCons (rVar 2) fNil))) (fCons (rTup (fCons (rVar 3) (fCons (rOp fAdd (rSlot 2) (rC (.int 1))) fNil))) (fCons (rTup (fCons (rVar 3) (fCons (rVar 2) fNil))) (fCons (rTup (fCons (rOp fAdd (rSlot 3) (rC (.int 1))) (fCons (rOp fAdd (rSlot 2) (rC (.int 1))) fNil))) fNil)))))) rNext)
    (rSeq (rIfS (tAndR (tOpT fGe (rSlot 3) (rC (.int 1))) (tOpT fLe (rOp fAdd (rOp fAdd (rSlot 3) (rSlot 2)) (rC (.int 1))) (rSlot 0))) (rApp 1 (rTup (fCons (rTup (fCons (rVar 3) (fCons (rVar 2) fNil))) (fCons (rTup (fCons (rVar 3) (fCons (rOp fAdd (rSlot 2) (rC (.int 1))) fNil))) (fCons (rTup (fCons (rOp fAdd (rSlot 3) (rC (.int 1))) (fCons (rVar 2) fNil))) (fCons (rTup (fCons (rOp fSub (rSlot 3) (rC (.int 1))) (fCons (rOp fAdd (rSlot 2) (rC (.int 1))) fNil))) fNil)))))) rNext)
    (rIfS (tAndR (tOpT fGe (rSlot 2) (rC (.int 1))) (tOpT fLe (rOp fAdd (rOp fAdd (rSlot 3) (rSlot 2)) (rC (.int 1))) (rSlot 0))) (rApp 1 (rTup (fCons (rTup (fCons (rVar 3) (fCons (rVar 2) fNil))) (fCons (rTup (fCons (rOp fAdd (rSlot 3) (rC (.int 1))) (fCons (rVar 2) fNil))) (fCons (rTup (fCons (rVar 3) (fCons (rOp fAdd (rSlot 2) (rC (.int 1))) fNil))) (fCons (rTup (fCons (rOp fAdd (rSlot 3) (rC (.int 1))) (fCons (rOp fSub (rSlot 2) (rC (.int 1))) fNil))) fNil)))))) rNext)))))
    (rRetV 1)))
theorem ok__law_diamonds (T : Txt K mg) {k : Nat} :
    FnOk P w K mg base (L2.CX P w) (k + 1) T.d__law_diamonds.f T.d__law_diamonds.fd ["n"] (spOf K (specOf N__law_diamonds 1 (t__law_diamonds))) :=
  fn_ok T.d__law_diamonds.F sc__law_diamonds fun cdv A outer s H E hr =>
    have hu := hr.units
    (svs_cons (sv_set 1 (ve_lst fa_nil) sc__law_diamonds.nd)
    (svs_cons (sv_for (vs := [2]) (passes_of rfl) rfl (vi_range1 ((ve_add (be_var 0) (ve_int).be)).be T.n_range) (pg_name (i := 2) sc__law_diamonds.nd rfl (by first | exact Or.inl rfl | exact Or.inr rfl)) (tgT_name (by simp)) (svs_one (sv_for (vs := [3]) (passes_of rfl) rfl (vi_range1 ((ve_sub ((ve_add (be_var 0) (ve_int).be)).be (be_var 2))).be T.n_range) (pg_name (i := 3) sc__law_diamonds.nd rfl (by first | exact Or.inl rfl | exact Or.inr rfl)) (tgT_name (by simp)) (svs_cons (sv_if (vt_c cLe ((ve_add ((ve_add (be_var 3) (be_var 2))).be (ve_int).be)).be (be_var 0)) (svs_one (sv_app 1 (pe_bm PySem.F.plainAttrs_list PySem.F.slot_list_append PySem.F.type_list_append mt_append (pv 1) (pa_cons ((ve_tup (fa_cons (ve_tup (fa_cons (ve_add (be_var 3) (ve_int).be) (fa_cons (ve_var 2) fa_nil))) (fa_cons (ve_tup (fa_cons (ve_var 3) (fa_cons (ve_add (be_var 2) (ve_int).be) fa_nil))) (fa_cons (ve_tup (fa_cons (ve_var 3) (fa_cons (ve_var 2) fa_nil))) (fa_cons (ve_tup (fa_cons (ve_add (be_var 3) (ve_int).be) (fa_cons (ve_add (be_var 2) (ve_int).be) fa_nil))) fa_nil)))))).run pa_nil)))) svs_nil)
    (svs_cons (sv_if ((vw_and (vt_c cGe (be_var 3) (ve_int).be) (vw_and1 (vt_c cLe ((ve_add ((ve_add (be_var 3) (be_var 2))).be (ve_int).be)).be (be_var 0))))).vt (svs_one (sv_app 1 (pe_bm PySem.F.plainAttrs_list PySem.F.slot_list_append PySem.F.type_list_append mt_append (pv 1) (pa_cons ((ve_tup (fa_cons (ve_tup (fa_cons (ve_var 3) (fa_cons (ve_var 2) fa_nil))) (fa_cons (ve_tup (fa_cons (ve_var 3) (fa_cons (ve_add (be_var 2) (ve_int).be) fa_nil))) (fa_cons (ve_tup (fa_cons (ve_add (be_var 3) (ve_int).be) (fa_cons (ve_var 2) fa_nil))) (fa_cons (ve_tup (fa_cons (ve_sub (be_var 3) (ve_int).be) (fa_cons (ve_add (be_var 2) (ve_int).be) fa_nil))) fa_nil)))))).run pa_nil)))) svs_nil)
    (svs_one (sv_if ((vw_and (vt_c cGe (be_var 2) (ve_int).be) (vw_and1 (vt_c cLe ((ve_add ((ve_add (be_var 3) (be_var 2))).be (ve_int).be)).be (be_var 0))))).vt (svs_one (sv_app 1 (pe_bm PySem.F.plainAttrs_list PySem.F.slot_list_append PySem.F.type_list_append mt_append (pv 1) (pa_cons ((ve_tup (fa_cons (ve_tup (fa_cons (ve_var 3) (fa_cons (ve_var 2) fa_nil))) (fa_cons (ve_tup (fa_cons (ve_add (be_var 3) (ve_int).be) (fa_cons (ve_var 2) fa_nil))) (fa_cons (ve_tup (fa_cons (ve_var 3) (fa_cons (ve_add (be_var 2) (ve_int).be) fa_nil))) (fa_cons (ve_tup (fa_cons (ve_add (be_var 3) (ve_int).be) (fa_cons (ve_sub (be_var 2) (ve_int).be) fa_nil))) fa_nil)))))).run pa_nil)))) svs_nil)))))))
    (svs_one (sv_retV 1))))

/-! _law_keeps -/
abbrev N__law_keeps : List Str := ["hive", "four", "parts", "i", "j"]
theorem sc__law_keeps : FnScope N__law_keeps ["hive"] (defScope s__law_keeps) := ⟨rfl, rfl, rfl, by decide +kernel, rfl, by decide +kernel, by decide +kernel⟩
def t__law_keeps (sp__law_diamonds : FSpec) : RS := (rSeq (rFor (iSeq (rCallU sp__law_diamonds (fCons (rOp fSub (rCall fLen (rCons (rSlot 0) rNil)) (rC (.int 1))) fNil))) (gN 1) (rSeq (rAsg 2 (rLc (iSeq (rVar 1)) (gTs [3, 4]) rYes (rOp fIx (rOp fIxB (rSlot 0) (rSlot 4)) (rSlot 3)) [3, 4]))
    (rIfS (tOpT fLt (rOp fAdd (rOp fIxB (rSlot 2) (rC (.int 0))) (rOp fIxB (rSlot 2) (rC (.int 1)))) (rOp fAdd (rOp fIxB (rSlot 2) (rC (.int 2))) (rOp fIxB (rSlot 2) (rC (.int 3))))) (rRet (rC (.bl false))) rNext)))
    (rRet (rC (.bl true))))
theorem ok__law_keeps (T : Txt K mg) {k : Nat} {sp__law_diamonds : FSpec}
    (G__law_diamonds : FnOk P w K mg base (L2.CX P w) k T.d__law_diamonds.f T.d__law_diamonds.fd ["n"] (spOf K sp__law_diamonds)) :
    FnOk P w K mg base (L2.CX P w) (k + 1) T.d__law_keeps.f T.d__law_keeps.fd ["hive"] (spOf K (specOf N__law_keeps 1 (t__law_keeps sp__law_diamonds))) :=
  fn_ok T.d__law_keeps.F sc__law_keeps fun cdv A outer s H E hr =>
    have hu := hr.units
    (svs_cons (sv_for (vs := [1]) (passes_of rfl) rfl (vi_seq (ve_u T.d__law_diamonds (takes_of rfl rfl rfl rfl) hr G__law_diamonds (fa_cons (ve_sub ((ve_callB call_len callT_len T.n_len (by decide +kernel) (ba_cons (be_var 0) ba_nil))).be (ve_int).be) fa_nil))) (pg_name (i := 1) sc__law_keeps.nd rfl (by first | exact Or.inl rfl | exact Or.inr rfl)) (tgT_name (by simp)) (svs_cons (sv_setLc 2 (own := [("i", 3), ("j", 4)]) rfl sc__law_keeps.nd (vi_seq (ve_var 1)) (blkOk_by (N := N__law_keeps) (sc := defScope s__law_keeps) (by decide +kernel)) (fun _ _ _ _ _ => (pg_tl rfl (pgs_cons (pg_name (i := 3) sc__law_keeps.nd rfl (by first | exact Or.inl rfl | exact Or.inr rfl)) (pgs_cons (pg_name (i := 4) sc__law_keeps.nd rfl (by first | exact Or.inl rfl | exact Or.inr rfl)) pgs_nil)))) (tgT_tup (is := [3, 4]) (by simp) rfl) (fun _ _ _ _ _ => vts_nil) (fun _ _ _ _ _ => (ve_ix (be_ix (be_var 0) (be_var 4)) (be_var 3))) (sw_true rfl rfl rfl (by decide +kernel)))
    (svs_one (sv_if (vt_c cLt ((ve_add (be_ix (be_var 2) (ve_int).be) (be_ix (be_var 2) (ve_int).be))).be ((ve_add (be_ix (be_var 2) (ve_int).be) (be_ix (be_var 2) (ve_int).be))).be) (svs_one (sv_ret ve_bl)) svs_nil))))
    (svs_one (sv_ret ve_bl)))

/-! _law_is_hive -/
abbrev N__law_is_hive : List Str := ["thing", "k", "row", "part"]
theorem sc__law_is_hive : FnScope N__law_is_hive ["thing"] (defScope s__law_is_hive) := ⟨rfl, rfl, rfl, by decide +kernel, rfl, by decide +kernel, by decide +kernel⟩
def t__law_is_hive (sp__law_is_integer : FSpec) (sp__law_keeps : FSpec) : RS := (rSeq (rIfS (tOrR (tNotR (tTru (rIsI ["tuple", "list"] (rSlot 0)))) (tNotR (tChT fLe fLe (rC (.int 2)) (rCall fLen (rCons (rSlot 0) rNil)) (rC (.int 7))))) (rRet (rC (.bl false))) rNext)
    (rSeq (rFor (iR1 (rCall fLen (rCons (rSlot 0) rNil))) (gN 1) (rSeq (rAsg 2 (rOp fIx (rSlot 0) (rSlot 1)))
    (rIfS (tOrR (tNotR (tTru (rIsI ["tuple", "list"] (rSlot 2)))) (tOrR (tOpT fNe (rCall fLen (rCons (rSlot 2) rNil)) (rOp fSub (rCall fLen (rCons (rSlot 0) rNil)) (rSlot 1))) (tNotR (tTru (rCall fAll (rCons (rLc (iSeq (rVar 2)) (gN 3) rYes (rCallU sp__law_is_integer (fCons (rVar 3) fNil)) [3]) rNil)))))) (rRet (rC (.bl false))) rNext)))
    (rRet (rAnd (rOp fEq (rOp fIxB (rOp fIxB (rSlot 0) (rC (.int 0))) (rC (.int 0))) (rC (.int 0))) (rCallU sp__law_keeps (fCons (rVar 0) fNil))))))
theorem ok__law_is_hive (T : Txt K mg) {k : Nat} {sp__law_is_integer : FSpec} {sp__law_keeps : FSpec}
    (G__law_is_integer : FnOk P w K mg base (L2.CX P w) k T.d__law_is_integer.f T.d__law_is_integer.fd ["actual"] (spOf K sp__law_is_integer))
    (G__law_keeps : FnOk P w K mg base (L2.CX P w) k T.d__law_keeps.f T.d__law_keeps.fd ["hive"] (spOf K sp__law_keeps)) :
    FnOk P w K mg base (L2.CX P w) (k + 1) T.d__law_is_hive.f T.d__law_is_hive.fd ["thing"] (spOf K (specOf N__law_is_hive 1 (t__law_is_hive sp__law_is_integer sp__law_keeps))) :=
  fn_ok T.d__law_is_hive.F sc__law_is_hive fun cdv A outer s H E hr =>
    have hu := hr.units
    (svs_cons (sv_if ((vw_or (vt_not (vt_truth ((ve_isi2 (be_var 0) (pe_bltn_ty T.n_tuple (by decide +kernel)) (pe_bltn_ty T.n_list (by decide +kernel)) T.n_isinstance)).be)) (vw_or1 (vt_not (vt_cc cLe cLe (ve_int).be ((ve_callB call_len callT_len T.n_len (by decide +kernel) (ba_cons (be_var 0) ba_nil))).be (ve_int).be))))).vt (svs_one (sv_ret ve_bl)) svs_nil)
    (svs_cons (sv_for (vs := [1]) (passes_of rfl) rfl (vi_range1 ((ve_callB call_len callT_len T.n_len (by decide +kernel) (ba_cons (be_var 0) ba_nil))).be T.n_range) (pg_name (i := 1) sc__law_is_hive.nd rfl (by first | exact Or.inl rfl | exact Or.inr rfl)) (tgT_name (by simp)) (svs_cons (sv_set 2 (ve_ix (be_var 0) (be_var 1)) sc__law_is_hive.nd)
    (svs_one (sv_if ((vw_or (vt_not (vt_truth ((ve_isi2 (be_var 2) (pe_bltn_ty T.n_tuple (by decide +kernel)) (pe_bltn_ty T.n_list (by decide +kernel)) T.n_isinstance)).be)) (vw_or (vt_c (cNe hu) ((ve_callB call_len callT_len T.n_len (by decide +kernel) (ba_cons (be_var 2) ba_nil))).be ((ve_sub ((ve_callB call_len callT_len T.n_len (by decide +kernel) (ba_cons (be_var 0) ba_nil))).be (be_var 1))).be) (vw_or1 (vt_not (vt_truth ((ve_callB (cr_all rfl) callT_all T.n_all (by decide +kernel) (ba_cons ((ve_lc (own := [("part", 3)]) rfl sc__law_is_hive.nd (vi_seq (ve_var 2)) (blkOk_by (N := N__law_is_hive) (sc := defScope s__law_is_hive) (by decide +kernel)) (fun _ _ _ _ _ => (pg_name (i := 3) sc__law_is_hive.nd rfl (by first | exact Or.inl rfl | exact Or.inr rfl))) (tgT_name (by simp)) (fun _ _ _ _ _ => vts_nil) (fun _ _ _ _ _ => (ve_u T.d__law_is_integer takes0 hr G__law_is_integer (fa_cons (ve_var 3) fa_nil))))).be ba_nil))).be)))))).vt (svs_one (sv_ret ve_bl)) svs_nil))))
    (svs_one (sv_ret (ve_and (ve_c (cEq hu) (be_ix (be_ix (be_var 0) (ve_int).be) (ve_int).be) (ve_int).be) (ve_one (ve_u T.d__law_keeps (takes_of rfl rfl rfl rfl) hr G__law_keeps (fa_cons (ve_var 0) fa_nil))))))))

/-! _law_border -/
abbrev N__law_border : List Str := ["hive", "n", "first", "second", "i", "j"]
theorem sc__law_border : FnScope N__law_border ["hive"] (defScope s__law_border) := ⟨rfl, rfl, rfl, by decide +kernel, rfl, by decide +kernel, by decide +kernel⟩
def t__law_border : RS := (rSeq (rAsg 1 (rOp fSub (rCall fLen (rCons (rSlot 0) rNil)) (rC (.int 1))))
    (rSeq (rAsg 2 (rCall fTuple (rCons (rLc (iR2 (rC (.int 1)) (rOp fAdd (rSlot 1) (rC (.int 1)))) (gN 4) rYes (rOp fSub (rOp fIxB (rOp fIxB (rSlot 0) (rC (.int 0))) (rSlot 4)) (rOp fIxB (rOp fIxB (rSlot 0) (rC (.int 0))) (rOp fSub (rSlot 4) (rC (.int 1))))) [4]) rNil)))
    (rSeq (rAsg 3 (rCall fTuple (rCons (rLc (iR2 (rC (.int 1)) (rOp fAdd (rSlot 1) (rC (.int 1)))) (gN 5) rYes (rOp fSub (rOp fIxB (rOp fIxB (rSlot 0) (rSlot 5)) (rOp fSub (rSlot 1) (rSlot 5))) (rOp fIxB (rOp fIxB (rSlot 0) (rOp fSub (rSlot 5) (rC (.int 1)))) (rOp fAdd (rOp fSub (rSlot 1) (rSlot 5)) (rC (.int 1))))) [5]) rNil)))
    (rRet (rTup (fCons (rVar 2) (fCons (rVar 3) (fCons (rCall fTuple (rCons (rLc (iR2 (rC (.int 1)) (rOp fAdd (rSlot 1) (rC (.int 1)))) (gN 5) rYes (rOp fSub (rOp fIxB (rOp fIxB (rSlot 0) (rSlot 5)) (rC (.int 0))) (rOp fIxB (rOp fIxB (rSlot 0) (rOp fSub (rSlot 5) (rC (.int 1)))) (rC (.int 0)))) [5]) rNil)) fNil))))))))
theorem ok__law_border (T : Txt K mg) {k : Nat} :
    FnOk P w K mg base (L2.CX P w) (k + 1) T.d__law_border.f T.d__law_border.fd ["hive"] (spOf K (specOf N__law_border 1 (t__law_border))) :=
  fn_ok T.d__law_border.F sc__law_border fun cdv A outer s H E hr =>
    have hu := hr.units
    (svs_cons (sv_set 1 (ve_sub ((ve_callB call_len callT_len T.n_len (by decide +kernel) (ba_cons (be_var 0) ba_nil))).be (ve_int).be) sc__law_border.nd)
    (svs_cons (sv_set 2 (ve_callTy call_tuple_of callT_tuple T.n_tuple (by decide +kernel) (ba_cons ((ve_lc (own := [("i", 4)]) rfl sc__law_border.nd (vi_range2 (ve_int).be ((ve_add (be_var 1) (ve_int).be)).be T.n_range) (blkOk_by (N := N__law_border) (sc := defScope s__law_border) (by decide +kernel)) (fun _ _ _ _ _ => (pg_name (i := 4) sc__law_border.nd rfl (by first | exact Or.inl rfl | exact Or.inr rfl))) (tgT_name (by simp)) (fun _ _ _ _ _ => vts_nil) (fun _ _ _ _ _ => (ve_sub (be_ix (be_ix (be_var 0) (ve_int).be) (be_var 4)) (be_ix (be_ix (be_var 0) (ve_int).be) ((ve_sub (be_var 4) (ve_int).be)).be))))).be ba_nil)) sc__law_border.nd)
    (svs_cons (sv_set 3 (ve_callTy call_tuple_of callT_tuple T.n_tuple (by decide +kernel) (ba_cons ((ve_lc (own := [("j", 5)]) rfl sc__law_border.nd (vi_range2 (ve_int).be ((ve_add (be_var 1) (ve_int).be)).be T.n_range) (blkOk_by (N := N__law_border) (sc := defScope s__law_border) (by decide +kernel)) (fun _ _ _ _ _ => (pg_name (i := 5) sc__law_border.nd rfl (by first | exact Or.inl rfl | exact Or.inr rfl))) (tgT_name (by simp)) (fun _ _ _ _ _ => vts_nil) (fun _ _ _ _ _ => (ve_sub (be_ix (be_ix (be_var 0) (be_var 5)) ((ve_sub (be_var 1) (be_var 5))).be) (be_ix (be_ix (be_var 0) ((ve_sub (be_var 5) (ve_int).be)).be) ((ve_add ((ve_sub (be_var 1) (be_var 5))).be (ve_int).be)).be))))).be ba_nil)) sc__law_border.nd)
    (svs_one (sv_ret (ve_tup (fa_cons (ve_var 2) (fa_cons (ve_var 3) (fa_cons (ve_callTy call_tuple_of callT_tuple T.n_tuple (by decide +kernel) (ba_cons ((ve_lc (own := [("j", 5)]) rfl sc__law_border.nd (vi_range2 (ve_int).be ((ve_add (be_var 1) (ve_int).be)).be T.n_range) (blkOk_by (N := N__law_border) (sc := defScope s__law_border) (by decide +kernel)) (fun _ _ _ _ _ => (pg_name (i := 5) sc__law_border.nd rfl (by first | exact Or.inl rfl | exact Or.inr rfl))) (tgT_name (by simp)) (fun _ _ _ _ _ => vts_nil) (fun _ _ _ _ _ => (ve_sub (be_ix (be_ix (be_var 0) (be_var 5)) (ve_int).be) (be_ix (be_ix (be_var 0) ((ve_sub (be_var 5) (ve_int).be)).be) (ve_int).be))))).be ba_nil)) fa_nil)))))))))

/-! _law_turned -/
abbrev N__law_turned : List Str := ["hive", "n", "j", "i"]
theorem sc__law_turned : FnScope N__law_turned ["hive"] (defScope s__law_turned) := ⟨rfl, rfl, rfl, by decide +kernel, rfl, by decide +kernel, by decide +kernel⟩
def t__law_turned : RS := (rSeq (rAsg 1 (rOp fSub (rCall fLen (rCons (rSlot 0) rNil)) (rC (.int 1))))
    (rRet (rCall fTuple (rCons (rLc (iR1 (rOp fAdd (rSlot 1) (rC (.int 1)))) (gN 2) rYes (rCall fTuple (rCons (rLc (iR1 (rOp fSub (rOp fAdd (rSlot 1) (rC (.int 1))) (rSlot 2))) (gN 3) rYes (rOp fSub (rOp fIxB (rOp fIxB (rSlot 0) (rSlot 3)) (rOp fSub (rOp fSub (rSlot 1) (rSlot 3)) (rSlot 2))) (rOp fIxB (rOp fIxB (rSlot 0) (rC (.int 0))) (rSlot 1))) [3]) rNil)) [2]) rNil))))
theorem ok__law_turned (T : Txt K mg) {k : Nat} :
    FnOk P w K mg base (L2.CX P w) (k + 1) T.d__law_turned.f T.d__law_turned.fd ["hive"] (spOf K (specOf N__law_turned 1 (t__law_turned))) :=
  fn_ok T.d__law_turned.F sc__law_turned fun cdv A outer s H E hr =>
    have hu := hr.units
    (svs_cons (sv_set 1 (ve_sub ((ve_callB call_len callT_len T.n_len (by decide +kernel) (ba_cons (be_var 0) ba_nil))).be (ve_int).be) sc__law_turned.nd)
    (svs_one (sv_ret (ve_callTy call_tuple_of callT_tuple T.n_tuple (by decide +kernel) (ba_cons ((ve_lc (own := [("j", 2)]) rfl sc__law_turned.nd (vi_range1 ((ve_add (be_var 1) (ve_int).be)).be T.n_range) (blkOk_by (N := N__law_turned) (sc := defScope s__law_turned) (by decide +kernel)) (fun _ _ _ _ _ => (pg_name (i := 2) sc__law_turned.nd rfl (by first | exact Or.inl rfl | exact Or.inr rfl))) (tgT_name (by simp)) (fun _ _ _ _ _ => vts_nil) (fun _ _ _ _ _ => (ve_callTy call_tuple_of callT_tuple T.n_tuple (by decide +kernel) (ba_cons ((ve_lc (own := [("i", 3)]) rfl sc__law_turned.nd (vi_range1 ((ve_sub ((ve_add (be_var 1) (ve_int).be)).be (be_var 2))).be T.n_range) (by exact blkOk_by (N := N__law_turned) (by kernel_rfl)) (fun _ _ _ _ _ => (pg_name (i := 3) sc__law_turned.nd rfl (by first | exact Or.inl rfl | exact Or.inr rfl))) (tgT_name (by simp)) (fun _ _ _ _ _ => vts_nil) (fun _ _ _ _ _ => (ve_sub (be_ix (be_ix (be_var 0) (be_var 3)) ((ve_sub ((ve_sub (be_var 1) (be_var 3))).be (be_var 2))).be) (be_ix (be_ix (be_var 0) (ve_int).be) (be_var 1)))))).be ba_nil))))).be ba_nil)))))

/-! _law_fall -/
abbrev N__law_fall : List Str := ["pool", "n", "size", "row", "k"]
theorem sc__law_fall : FnScope N__law_fall ["pool", "n", "size"] (defScope s__law_fall) := ⟨rfl, rfl, rfl, by decide +kernel, rfl, by decide +kernel, by decide +kernel⟩
def t__law_fall (sp__law_below : FSpec) : RS := (rSeq (rAsg 3 (rLc (iR1 (rSlot 1)) (gN 4) rYes (rOp fSub (rCallU sp__law_below (fCons (rVar 0) (fCons (rOp fAdd (rOp fMul (rC (.int 2)) (rSlot 2)) (rC (.int 1))) fNil))) (rSlot 2)) [4]))
    (rRet (rUn fRev (rCall fSortedA (rCons (rSlot 3) rNil)))))
theorem ok__law_fall (T : Txt K mg) {k : Nat} {sp__law_below : FSpec}
    (G__law_below : FnOk P w K mg base (L2.CX P w) k T.d__law_below.f T.d__law_below.fd ["pool", "many"] (spOf K sp__law_below)) :
    FnOk P w K mg base (L2.CX P w) (k + 1) T.d__law_fall.f T.d__law_fall.fd ["pool", "n", "size"] (spOf K (specOf N__law_fall 3 (t__law_fall sp__law_below))) :=
  fn_ok T.d__law_fall.F sc__law_fall fun cdv A outer s H E hr =>
    have hu := hr.units
    (svs_cons (sv_setLc 3 (own := [("k", 4)]) rfl sc__law_fall.nd (vi_range1 (be_var 1) T.n_range) (blkOk_by (N := N__law_fall) (sc := defScope s__law_fall) (by decide +kernel)) (fun _ _ _ _ _ => (pg_name (i := 4) sc__law_fall.nd rfl (by first | exact Or.inl rfl | exact Or.inr rfl))) (tgT_name (by simp)) (fun _ _ _ _ _ => vts_nil) (fun _ _ _ _ _ => (ve_sub ((ve_u T.d__law_below takes0 hr G__law_below (fa_cons (ve_var 0) (fa_cons (ve_add ((ve_mul (ve_int).be (be_var 2))).be (ve_int).be) fa_nil)))).be (be_var 2))) (sw_true rfl rfl rfl (by decide +kernel)))
    (svs_one (sv_ret (ve_rev ((ve_callB cr_sortedA callT_sortedA T.n_sorted (by decide +kernel) (ba_cons (be_var 3) ba_nil))).be))))

/-! _law_straight -/
abbrev N__law_straight : List Str := ["one", "other", "n", "j", "i"]
theorem sc__law_straight : FnScope N__law_straight ["one", "other"] (defScope s__law_straight) := ⟨rfl, rfl, rfl, by decide +kernel, rfl, by decide +kernel, by decide +kernel⟩
def t__law_straight : RS := (rSeq (rAsg 2 (rCall fLen (rCons (rSlot 0) rNil)))
    (rRet (rCall fTuple (rCons (rLc (iR1 (rOp fAdd (rSlot 2) (rC (.int 1)))) (gN 3) rYes (rCall fTuple (rCons (rLc (iR1 (rOp fSub (rOp fAdd (rSlot 2) (rC (.int 1))) (rSlot 3))) (gN 4) rYes (rOp fAdd (rCall fSum (rCons (rSl (rSlot 0) rNoPart (rPart (rOp fAdd (rSlot 4) (rSlot 3)))) rNil)) (rCall fSum (rCons (rSl (rSlot 1) rNoPart (rPart (rSlot 3))) rNil))) [4]) rNil)) [3]) rNil))))
theorem ok__law_straight (T : Txt K mg) {k : Nat} :
    FnOk P w K mg base (L2.CX P w) (k + 1) T.d__law_straight.f T.d__law_straight.fd ["one", "other"] (spOf K (specOf N__law_straight 2 (t__law_straight))) :=
  fn_ok T.d__law_straight.F sc__law_straight fun cdv A outer s H E hr =>
    have hu := hr.units
    (svs_cons (sv_set 2 (ve_callB call_len callT_len T.n_len (by decide +kernel) (ba_cons (be_var 0) ba_nil)) sc__law_straight.nd)
    (svs_one (sv_ret (ve_callTy call_tuple_of callT_tuple T.n_tuple (by decide +kernel) (ba_cons ((ve_lc (own := [("j", 3)]) rfl sc__law_straight.nd (vi_range1 ((ve_add (be_var 2) (ve_int).be)).be T.n_range) (blkOk_by (N := N__law_straight) (sc := defScope s__law_straight) (by decide +kernel)) (fun _ _ _ _ _ => (pg_name (i := 3) sc__law_straight.nd rfl (by first | exact Or.inl rfl | exact Or.inr rfl))) (tgT_name (by simp)) (fun _ _ _ _ _ => vts_nil) (fun _ _ _ _ _ => (ve_callTy call_tuple_of callT_tuple T.n_tuple (by decide +kernel) (ba_cons ((ve_lc (own := [("i", 4)]) rfl sc__law_straight.nd (vi_range1 ((ve_sub ((ve_add (be_var 2) (ve_int).be)).be (be_var 3))).be T.n_range) (by exact blkOk_by (N := N__law_straight) (by kernel_rfl)) (fun _ _ _ _ _ => (pg_name (i := 4) sc__law_straight.nd rfl (by first | exact Or.inl rfl | exact Or.inr rfl))) (tgT_name (by simp)) (fun _ _ _ _ _ => vts_nil) (fun _ _ _ _ _ => (ve_add ((ve_callB (cr_sumA rfl) callT_sum T.n_sum (by decide +kernel) (ba_cons ((ve_slice (be_var 0) bo_none (bo_some ((ve_add (be_var 4) (be_var 3))).be))).be ba_nil))).be ((ve_callB (cr_sumA rfl) callT_sum T.n_sum (by decide +kernel) (ba_cons ((ve_slice (be_var 1) bo_none (bo_some (be_var 3)))).be ba_nil))).be)))).be ba_nil))))).be ba_nil)))))

/-! _law_hive_sum -/
abbrev N__law_hive_sum : List Str := ["one", "other", "j", "i"]
theorem sc__law_hive_sum : FnScope N__law_hive_sum ["one", "other"] (defScope s__law_hive_sum) := ⟨rfl, rfl, rfl, by decide +kernel, rfl, by decide +kernel, by decide +kernel⟩
def t__law_hive_sum : RS := (rRet (rCall fTuple (rCons (rLc (iR1 (rCall fLen (rCons (rSlot 0) rNil))) (gN 2) rYes (rCall fTuple (rCons (rLc (iR1 (rCall fLen (rCons (rOp fIxB (rSlot 0) (rSlot 2)) rNil))) (gN 3) rYes (rOp fAdd (rOp fIxB (rOp fIxB (rSlot 0) (rSlot 2)) (rSlot 3)) (rOp fIxB (rOp fIxB (rSlot 1) (rSlot 2)) (rSlot 3))) [3]) rNil)) [2]) rNil)))
theorem ok__law_hive_sum (T : Txt K mg) {k : Nat} :
    FnOk P w K mg base (L2.CX P w) (k + 1) T.d__law_hive_sum.f T.d__law_hive_sum.fd ["one", "other"] (spOf K (specOf N__law_hive_sum 2 (t__law_hive_sum))) :=
  fn_ok T.d__law_hive_sum.F sc__law_hive_sum fun cdv A outer s H E hr =>
    have hu := hr.units
    (svs_one (sv_ret (ve_callTy call_tuple_of callT_tuple T.n_tuple (by decide +kernel) (ba_cons ((ve_lc (own := [("j", 2)]) rfl sc__law_hive_sum.nd (vi_range1 ((ve_callB call_len callT_len T.n_len (by decide +kernel) (ba_cons (be_var 0) ba_nil))).be T.n_range) (blkOk_by (N := N__law_hive_sum) (sc := defScope s__law_hive_sum) (by decide +kernel)) (fun _ _ _ _ _ => (pg_name (i := 2) sc__law_hive_sum.nd rfl (by first | exact Or.inl rfl | exact Or.inr rfl))) (tgT_name (by simp)) (fun _ _ _ _ _ => vts_nil) (fun _ _ _ _ _ => (ve_callTy call_tuple_of callT_tuple T.n_tuple (by decide +kernel) (ba_cons ((ve_lc (own := [("i", 3)]) rfl sc__law_hive_sum.nd (vi_range1 ((ve_callB call_len callT_len T.n_len (by decide +kernel) (ba_cons (be_ix (be_var 0) (be_var 2)) ba_nil))).be T.n_range) (by exact blkOk_by (N := N__law_hive_sum) (by kernel_rfl)) (fun _ _ _ _ _ => (pg_name (i := 3) sc__law_hive_sum.nd rfl (by first | exact Or.inl rfl | exact Or.inr rfl))) (tgT_name (by simp)) (fun _ _ _ _ _ => vts_nil) (fun _ _ _ _ _ => (ve_add (be_ix (be_ix (be_var 0) (be_var 2)) (be_var 3)) (be_ix (be_ix (be_var 1) (be_var 2)) (be_var 3)))))).be ba_nil))))).be ba_nil))))

/-! _law_some_hive -/
abbrev N__law_some_hive : List Str := ["pool", "n", "size", "found", "turn", "hive", "step"]
theorem sc__law_some_hive : FnScope N__law_some_hive ["pool", "n", "size"] (defScope s__law_some_hive) := ⟨rfl, rfl, rfl, by decide +kernel, rfl, by decide +kernel, by decide +kernel⟩
def t__law_some_hive (sp__law_fall : FSpec) (sp__law_hive_sum : FSpec) (sp__law_straight : FSpec) (sp__law_take : FSpec) (sp__law_turned : FSpec) : RS := (rSeq (rAsg 3 (rC .non))
    (rSeq (rFor (iR1 (rOp fAdd (rC (.int 1)) (rCallU sp__law_take (fCons (rVar 0) (fCons (rC (.int 3)) fNil))))) (gN 4) (rSeq (rAsg 5 (rCallU sp__law_straight (fCons (rCallU sp__law_fall (fCons (rVar 0) (fCons (rVar 1) (fCons (rVar 2) fNil)))) (fCons (rCallU sp__law_fall (fCons (rVar 0) (fCons (rVar 1) (fCons (rVar 2) fNil)))) fNil))))
    (rSeq (rFor (iR1 (rCallU sp__law_take (fCons (rVar 0) (fCons (rC (.int 3)) fNil)))) (gN 6) (rFrz 5 (rAsg 5 (rCallU sp__law_turned (fCons (rVar 5) fNil)))))
    (rFrz 5 (rFrz 3 (rAsg 3 (rIf (tOpT fIsN (rSlot 3) (rC .non)) (rVar 5) (rCallU sp__law_hive_sum (fCons (rVar 3) (fCons (rVar 5) fNil))))))))))
    (rRetV 3)))
theorem ok__law_some_hive (T : Txt K mg) {k : Nat} {sp__law_fall : FSpec} {sp__law_hive_sum : FSpec} {sp__law_straight : FSpec} {sp__law_take : FSpec} {sp__law_turned : FSpec}
    (G__law_fall : FnOk P w K mg base (L2.CX P w) k T.d__law_fall.f T.d__law_fall.fd ["pool", "n", "size"] (spOf K sp__law_fall))
    (G__law_hive_sum : FnOk P w K mg base (L2.CX P w) k T.d__law_hive_sum.f T.d__law_hive_sum.fd ["one", "other"] (spOf K sp__law_hive_sum))
    (G__law_straight : FnOk P w K mg base (L2.CX P w) k T.d__law_straight.f T.d__law_straight.fd ["one", "other"] (spOf K sp__law_straight))
    (G__law_take : FnOk P w K mg base (L2.CX P w) k T.d__law_take.f T.d__law_take.fd ["pool", "many"] (spOf K sp__law_take))
    (G__law_turned : FnOk P w K mg base (L2.CX P w) k T.d__law_turned.f T.d__law_turned.fd ["hive"] (spOf K sp__law_turned)) :
    FnOk P w K mg base (L2.CX P w) (k + 1) T.d__law_some_hive.f T.d__law_some_hive.fd ["pool", "n", "size"] (spOf K (specOf N__law_some_hive 3 (t__law_some_hive sp__law_fall sp__law_hive_sum sp__law_straight sp__law_take sp__law_turned))) :=
  fn_ok T.d__law_some_hive.F sc__law_some_hive fun cdv A outer s H E hr =>
    have hu := hr.units
    (svs_cons (sv_set 3 ve_non sc__law_some_hive.nd)
    (svs_cons (sv_for (vs := [4]) (passes_of rfl) rfl (vi_range1 ((ve_add (ve_int).be ((ve_u T.d__law_take (takes_of rfl rfl rfl rfl) hr G__law_take (fa_cons (ve_var 0) (fa_cons ve_int fa_nil)))).be)).be T.n_range) (pg_name (i := 4) sc__law_some_hive.nd rfl (by first | exact Or.inl rfl | exact Or.inr rfl)) (tgT_name (by simp)) (svs_cons (sv_set 5 (ve_u T.d__law_straight (takes_of rfl rfl rfl rfl) hr G__law_straight (fa_cons (ve_u T.d__law_fall (takes_of rfl rfl rfl rfl) hr G__law_fall (fa_cons (ve_var 0) (fa_cons (ve_var 1) (fa_cons (ve_var 2) fa_nil)))) (fa_cons (ve_u T.d__law_fall (takes_of rfl rfl rfl rfl) hr G__law_fall (fa_cons (ve_var 0) (fa_cons (ve_var 1) (fa_cons (ve_var 2) fa_nil)))) fa_nil))) sc__law_some_hive.nd)
    (svs_cons (sv_for (vs := [6]) (passes_of rfl) rfl (vi_range1 ((ve_u T.d__law_take (takes_of rfl rfl rfl rfl) hr G__law_take (fa_cons (ve_var 0) (fa_cons ve_int fa_nil)))).be T.n_range) (pg_name (i := 6) sc__law_some_hive.nd rfl (by first | exact Or.inl rfl | exact Or.inr rfl)) (tgT_name (by simp)) (svs_frz 5 (svs_one (sv_set 5 (ve_u T.d__law_turned (takes_of rfl rfl rfl rfl) hr G__law_turned (fa_cons (ve_var 5) fa_nil)) sc__law_some_hive.nd))))
    (svs_frz 5 (svs_frz 3 (svs_one (sv_set 3 (ve_ifExp (vt_c cIs (be_var 3) (ve_non).be) (ve_var 5) (ve_u T.d__law_hive_sum (takes_of rfl rfl rfl rfl) hr G__law_hive_sum (fa_cons (ve_var 3) (fa_cons (ve_var 5) fa_nil)))) sc__law_some_hive.nd)))))))
    (svs_one (sv_retV 3))))

/-! _law_raised -/
abbrev N__law_raised : List Str := ["call", "thing", "error"]
theorem sc__law_raised : FnScope N__law_raised ["call", "thing"] (defScope s__law_raised) := ⟨rfl, rfl, rfl, by decide +kernel, rfl, by decide +kernel, by decide +kernel⟩
def t__law_raised (K : PySem.W.Frag) (c_ShapeError : Addr) (c_BadHive : Addr) (sp_border : FSpec) (sp_turned_hive : FSpec) : RS := (rSeq (rTry1 K (.ref c_ShapeError) (fun y t => y.fs = [] ∧ ExcC K y.cls ∧ ∃ b, PySem.W.kitOne K (.ref y.cls) (.ref c_BadHive) = some b ∧ t = .bl b) 2 (rIfS (tOpT fEq (rSlot 0) (rC (.str (PySem.Str.ofString "border")))) (rDrop (rCallU sp_border (fCons (rVar 1) fNil))) (rDrop (rCallU sp_turned_hive (fCons (rVar 1) fNil)))))
    (rRet (rC .non)))
theorem ok__law_raised (T : Txt K mg) {k : Nat} {sp_border : FSpec} {sp_turned_hive : FSpec}
    (G_border : FnOk P w K mg base (L2.CX P w) k T.d_border.f T.d_border.fd ["hive"] (spOf K sp_border))
    (G_turned_hive : FnOk P w K mg base (L2.CX P w) k T.d_turned_hive.f T.d_turned_hive.fd ["hive"] (spOf K sp_turned_hive)) :
    FnOk P w K mg base (L2.CX P w) (k + 1) T.d__law_raised.f T.d__law_raised.fd ["call", "thing"] (spOf K (specOf N__law_raised 2 (t__law_raised K T.k_ShapeError.C T.k_BadHive.C sp_border sp_turned_hive))) :=
  fn_ok T.d__law_raised.F sc__law_raised fun cdv A outer s H E hr =>
    have hu := hr.units
    (svs_cons (sv_try1 2 rfl rfl sc__law_raised.nd ⟨rfl, by decide, .inl T.k_ShapeError.g⟩ (takes_of rfl rfl rfl rfl) (fun W1 pn xe tk1 hp1 => (svs_one (sv_if (vt_c (cEq hu) (be_var 0) (ve_str).be) (svs_one (sv_expr (ve_u T.d_border tk1 hr G_border (fa_cons (ve_var 1) fa_nil)))) (svs_one (sv_expr (ve_u T.d_turned_hive tk1 hr G_turned_hive (fa_cons (ve_var 1) fa_nil))))))) (fun a oe cls d pn hz hf => (ee_isi hz hf (pv 2) (pe_glob (v := .ref T.k_BadHive.C) rfl T.k_BadHive.g rfl) (fun u hu => hu) T.n_isinstance)))
    (svs_one (sv_ret ve_non)))

/-! _law_handed -/
abbrev N__law_handed : List Str := ["pool", "hive", "row"]
theorem sc__law_handed : FnScope N__law_handed ["pool", "hive"] (defScope s__law_handed) := ⟨rfl, rfl, rfl, by decide +kernel, rfl, by decide +kernel, by decide +kernel⟩
def t__law_handed (sp__law_given : FSpec) : RS := (rRet (rCallU sp__law_given (fCons (rVar 0) (fCons (rLc (iSeq (rVar 1)) (gN 2) rYes (rCallU sp__law_given (fCons (rVar 0) (fCons (rVar 2) fNil))) [2]) fNil))))
theorem ok__law_handed (T : Txt K mg) {k : Nat} {sp__law_given : FSpec}
    (G__law_given : FnOk P w K mg base (L2.CX P w) k T.d__law_given.f T.d__law_given.fd ["pool", "row"] (spOf K sp__law_given)) :
    FnOk P w K mg base (L2.CX P w) (k + 1) T.d__law_handed.f T.d__law_handed.fd ["pool", "hive"] (spOf K (specOf N__law_handed 2 (t__law_handed sp__law_given))) :=
  fn_ok T.d__law_handed.F sc__law_handed fun cdv A outer s H E hr =>
    have hu := hr.units
    (svs_one (sv_ret (ve_u T.d__law_given (takes_of rfl rfl rfl rfl) hr G__law_given (fa_cons (ve_var 0) (fa_cons (ve_lc (own := [("row", 2)]) rfl sc__law_handed.nd (vi_seq (ve_var 1)) (blkOk_by (N := N__law_handed) (sc := defScope s__law_handed) (by decide +kernel)) (fun _ _ _ _ _ => (pg_name (i := 2) sc__law_handed.nd rfl (by first | exact Or.inl rfl | exact Or.inr rfl))) (tgT_name (by simp)) (fun _ _ _ _ _ => vts_nil) (fun _ _ _ _ _ => (ve_u T.d__law_given takes0 hr G__law_given (fa_cons (ve_var 0) (fa_cons (ve_var 2) fa_nil))))) fa_nil)))))

/-! _law_spoilt -/
abbrev N__law_spoilt : List Str := ["pool", "hive", "rows", "j", "i", "kind", "row", "part"]
theorem sc__law_spoilt : FnScope N__law_spoilt ["pool", "hive"] (defScope s__law_spoilt) := ⟨rfl, rfl, rfl, by decide +kernel, rfl, by decide +kernel, by decide +kernel⟩
def t__law_spoilt (sp__law_given : FSpec) (sp__law_pick : FSpec) (sp__law_take : FSpec) : RS := (rSeq (rAsg 2 (rLcR (iSeq (rVar 1)) (gN 6) rYes (rCall fList (rCons (rSlot 6) rNil)) [6]))
    (rSeq (rAsg 3 (rCallU sp__law_take (fCons (rVar 0) (fCons (rCall fLen (rCons (rSlot 2) rNil)) fNil))))
    (rSeq (rAsg 4 (rCallU sp__law_take (fCons (rVar 0) (fCons (rCall fLen (rCons (rOp fIxB (rSlot 2) (rSlot 3)) rNil)) fNil))))
    (rSeq (rAsg 5 (rCallU sp__law_take (fCons (rVar 0) (fCons (rC (.int 8)) fNil))))
    (rSeq (rIfS (tOpT fEq (rSlot 5) (rC (.int 0))) (rFrz 2 (rRet (rCallU sp__law_pick (fCons (rVar 0) (fCons (rLst (fCons (rC .non) (fCons (rTup fNil) (fCons (rTup (fCons (rC (.int 0)) fNil)) (fCons (rTup (fCons (rTup (fCons (rC (.int 0)) fNil)) fNil)) (fCons (rC (.str (PySem.Str.ofString "hive"))) (fCons (rC (.int 5)) (fCons (rC .dct) (fCons (rLst (fCons (rLst (fCons (rC (.int 0)) (fCons (rC (.int 0)) fNil))) fNil)) (fCons (rOp fAdd (rSlot 2) (rLst (fCons (rLst (fCons (rC (.int 0)) fNil)) fNil))) (fCons (rSl (rSlot 2) rNoPart (rPart (rUn fNeg (rC (.int 1))))) (fCons (rSl (rSlot 2) (rPart (rC (.int 1))) rNoPart) (fCons (rUn fRev (rSlot 1)) fNil))))))))))))) fNil))))) rNext)
    (rSeq (rIfS (tOpT fEq (rSlot 5) (rC (.int 1))) (rFrzR 2 (rSt1 2 (rSlot 3) (rCallU sp__law_pick (fCons (rVar 0) (fCons (rLst (fCons (rC .non) (fCons (rOp fAdd (rOp fIxB (rSlot 2) (rSlot 3)) (rLst (fCons (rC (.int 0)) fNil))) (fCons (rSl (rOp fIxB (rSlot 2) (rSlot 3)) (rPart (rC (.int 1))) rNoPart) (fCons (rC (.int 7)) (fCons (rOp fMulS (rC (.str (PySem.Str.ofString "0"))) (rCall fLen (rCons (rOp fIxB (rSlot 2) (rSlot 3)) rNil))) fNil)))))) fNil))))) (rIfS (tOpT fEq (rSlot 5) (rC (.int 2))) (rSt2 2 (rSlot 3) (rSlot 4) (rCallU sp__law_pick (fCons (rVar 0) (fCons (rLst (fCons (rC .non) (fCons (rC (.bl true)) (fCons (rC (.str (PySem.Str.ofString "0"))) (fCons (rTup (fCons (rC (.int 1)) (fCons (rC (.int 1)) fNil))) (fCons (rTup (fCons (rC (.int 0)) fNil)) fNil)))))) fNil)))) (rIfS (tOpT fEq (rSlot 5) (rC (.int 3))) (rFrz 2 (rAsg 2 (rLc (iSeq (rVar 2)) (gN 6) rYes (rLc (iSeq (rVar 6)) (gN 7) rYes (rOp fAdd (rSlot 7) (rC (.int 1))) [7]) [6]))) (rSt2 2 (rSlot 3) (rSlot 4) (rOp fAdd (rOp fIxB (rOp fIxB (rSlot 2) (rSlot 3)) (rSlot 4)) (rCallU sp__law_pick (fCons (rVar 0) (fCons (rLst (fCons (rC (.int 1)) (fCons (rUn fNeg (rC (.int 1))) (fCons (rC (.int 1)) (fCons (rUn fNeg (rC (.int 1))) (fCons (rC (.int 2)) (fCons (rUn fNeg (rC (.int 2))) (fCons (rOp fPow (rC (.int 10)) (rC (.int 20))) fNil)))))))) fNil))))))))
    (rFrz 2 (rRet (rCallU sp__law_given (fCons (rVar 0) (fCons (rLc (iSeq (rVar 2)) (gN 6) rYes (rIf (tTru (rIsI ["list"] (rSlot 6))) (rCallU sp__law_given (fCons (rVar 0) (fCons (rVar 6) fNil))) (rVar 6)) [6]) fNil)))))))))))
theorem ok__law_spoilt (T : Txt K mg) {k : Nat} {sp__law_given : FSpec} {sp__law_pick : FSpec} {sp__law_take : FSpec}
    (G__law_given : FnOk P w K mg base (L2.CX P w) k T.d__law_given.f T.d__law_given.fd ["pool", "row"] (spOf K sp__law_given))
    (G__law_pick : FnOk P w K mg base (L2.CX P w) k T.d__law_pick.f T.d__law_pick.fd ["pool", "rows"] (spOf K sp__law_pick))
    (G__law_take : FnOk P w K mg base (L2.CX P w) k T.d__law_take.f T.d__law_take.fd ["pool", "many"] (spOf K sp__law_take)) :
    FnOk P w K mg base (L2.CX P w) (k + 1) T.d__law_spoilt.f T.d__law_spoilt.fd ["pool", "hive"] (spOf K (specOf N__law_spoilt 2 (t__law_spoilt sp__law_given sp__law_pick sp__law_take))) :=
  fn_ok T.d__law_spoilt.F sc__law_spoilt fun cdv A outer s H E hr =>
    have hu := hr.units
    (svs_cons (sv_setLcR 2 (own := [("row", 6)]) rfl sc__law_spoilt.nd (vi_seq (ve_var 1)) (blkOk_by (N := N__law_spoilt) (sc := defScope s__law_spoilt) (by decide +kernel)) (fun _ _ _ _ _ => (pg_name (i := 6) sc__law_spoilt.nd rfl (by first | exact Or.inl rfl | exact Or.inr rfl))) (tgT_name (by simp)) (fun _ _ _ _ _ => vts_nil) (fun _ _ _ _ _ => (ve_callTy call_list_of callT_list T.n_list (by decide +kernel) (ba_cons (be_var 6) ba_nil))) (sw_true rfl rfl rfl (by decide +kernel)))
    (svs_cons (sv_set 3 (ve_u T.d__law_take (takes_of rfl rfl rfl rfl) hr G__law_take (fa_cons (ve_var 0) (fa_cons (ve_callB call_len callT_len T.n_len (by decide +kernel) (ba_cons (be_var 2) ba_nil)) fa_nil))) sc__law_spoilt.nd)
    (svs_cons (sv_set 4 (ve_u T.d__law_take (takes_of rfl rfl rfl rfl) hr G__law_take (fa_cons (ve_var 0) (fa_cons (ve_callB call_len callT_len T.n_len (by decide +kernel) (ba_cons (be_ix (be_var 2) (be_var 3)) ba_nil)) fa_nil))) sc__law_spoilt.nd)
    (svs_cons (sv_set 5 (ve_u T.d__law_take (takes_of rfl rfl rfl rfl) hr G__law_take (fa_cons (ve_var 0) (fa_cons ve_int fa_nil))) sc__law_spoilt.nd)
    (svs_cons (sv_if (vt_c (cEq hu) (be_var 5) (ve_int).be) (svs_frz 2 (svs_one (sv_ret (ve_u T.d__law_pick (takes_of rfl rfl rfl rfl) hr G__law_pick (fa_cons (ve_var 0) (fa_cons (ve_lst (fa_cons ve_non (fa_cons (ve_tup fa_nil) (fa_cons (ve_tup (fa_cons ve_int fa_nil)) (fa_cons (ve_tup (fa_cons (ve_tup (fa_cons ve_int fa_nil)) fa_nil)) (fa_cons ve_str (fa_cons ve_int (fa_cons ve_dct (fa_cons (ve_lst (fa_cons (ve_lst (fa_cons ve_int (fa_cons ve_int fa_nil))) fa_nil)) (fa_cons (ve_add (be_var 2) ((ve_lst (fa_cons (ve_lst (fa_cons ve_int fa_nil)) fa_nil))).be) (fa_cons (ve_slice (be_var 2) bo_none (bo_some ((ve_neg (ve_int).be)).be)) (fa_cons (ve_slice (be_var 2) (bo_some (ve_int).be) bo_none) (fa_cons (ve_rev (be_var 1)) fa_nil))))))))))))) fa_nil)))))) svs_nil)
    (svs_cons (sv_if (vt_c (cEq hu) (be_var 5) (ve_int).be) (svs_frzR 2 (svs_one (sv_st1 2 (ve_u T.d__law_pick (takes_of rfl rfl rfl rfl) hr G__law_pick (fa_cons (ve_var 0) (fa_cons (ve_lst (fa_cons ve_non (fa_cons (ve_add (be_ix (be_var 2) (be_var 3)) ((ve_lst (fa_cons ve_int fa_nil))).be) (fa_cons (ve_slice (be_ix (be_var 2) (be_var 3)) (bo_some (ve_int).be) bo_none) (fa_cons ve_int (fa_cons (ve_mulS (ve_str).be ((ve_callB call_len callT_len T.n_len (by decide +kernel) (ba_cons (be_ix (be_var 2) (be_var 3)) ba_nil))).be) fa_nil)))))) fa_nil))) (pg_sub (pv 2) ((be_var 3)).run set_list)))) (svs_one (sv_if (vt_c (cEq hu) (be_var 5) (ve_int).be) (svs_one (sv_st2 2 (ve_u T.d__law_pick (takes_of rfl rfl rfl rfl) hr G__law_pick (fa_cons (ve_var 0) (fa_cons (ve_lst (fa_cons ve_non (fa_cons ve_bl (fa_cons ve_str (fa_cons (ve_tup (fa_cons ve_int (fa_cons ve_int fa_nil))) (fa_cons (ve_tup (fa_cons ve_int fa_nil)) fa_nil)))))) fa_nil))) (pg_sub (pe_ix ix_list (pv 2) ((be_var 3)).run (fun _ _ => rfl)) ((be_var 4)).run set_list))) (svs_one (sv_if (vt_c (cEq hu) (be_var 5) (ve_int).be) (svs_frz 2 (svs_one (sv_setLc 2 (own := [("row", 6)]) rfl sc__law_spoilt.nd (vi_seq (ve_var 2)) (blkOk_by (N := N__law_spoilt) (sc := defScope s__law_spoilt) (by decide +kernel)) (fun _ _ _ _ _ => (pg_name (i := 6) sc__law_spoilt.nd rfl (by first | exact Or.inl rfl | exact Or.inr rfl))) (tgT_name (by simp)) (fun _ _ _ _ _ => vts_nil) (fun _ _ _ _ _ => (ve_lc (own := [("part", 7)]) rfl sc__law_spoilt.nd (vi_seq (ve_var 6)) (by exact blkOk_by (N := N__law_spoilt) (by kernel_rfl)) (fun _ _ _ _ _ => (pg_name (i := 7) sc__law_spoilt.nd rfl (by first | exact Or.inl rfl | exact Or.inr rfl))) (tgT_name (by simp)) (fun _ _ _ _ _ => vts_nil) (fun _ _ _ _ _ => (ve_add (be_var 7) (ve_int).be)))) (sw_true rfl rfl rfl (by decide +kernel))))) (svs_one (sv_st2 2 (ve_add (be_ix (be_ix (be_var 2) (be_var 3)) (be_var 4)) ((ve_u T.d__law_pick (takes_of rfl rfl rfl rfl) hr G__law_pick (fa_cons (ve_var 0) (fa_cons (ve_lst (fa_cons ve_int (fa_cons (ve_neg (ve_int).be) (fa_cons ve_int (fa_cons (ve_neg (ve_int).be) (fa_cons ve_int (fa_cons (ve_neg (ve_int).be) (fa_cons (ve_pow (ve_int).be (ve_int).be) fa_nil)))))))) fa_nil)))).be) (pg_sub (pe_ix ix_list (pv 2) ((be_var 3)).run (fun _ _ => rfl)) ((be_var 4)).run set_list))))))))
    (svs_frz 2 (svs_one (sv_ret (ve_u T.d__law_given (takes_of rfl rfl rfl rfl) hr G__law_given (fa_cons (ve_var 0) (fa_cons (ve_lc (own := [("row", 6)]) rfl sc__law_spoilt.nd (vi_seq (ve_var 2)) (blkOk_by (N := N__law_spoilt) (sc := defScope s__law_spoilt) (by decide +kernel)) (fun _ _ _ _ _ => (pg_name (i := 6) sc__law_spoilt.nd rfl (by first | exact Or.inl rfl | exact Or.inr rfl))) (tgT_name (by simp)) (fun _ _ _ _ _ => vts_nil) (fun _ _ _ _ _ => (ve_ifExp (vt_truth ((ve_isi1 (be_var 6) (pe_bltn_ty T.n_list (by decide +kernel)) T.n_isinstance)).be) (ve_u T.d__law_given takes0 hr G__law_given (fa_cons (ve_var 0) (fa_cons (ve_var 6) fa_nil))) (ve_var 6)))) fa_nil))))))))))))

/-! law -/
abbrev N_law : List Str := ["script", "pool", "turn", "n", "hive", "due", "told", "after", "step", "thing", "is_right", "wrong", "row", "part"]
theorem sc_law : FnScope N_law ["script"] (defScope s_law) := ⟨rfl, rfl, rfl, by decide +kernel, rfl, by decide +kernel, by decide +kernel⟩
def t_law (sp__law_border : FSpec) (sp__law_handed : FSpec) (sp__law_is_hive : FSpec) (sp__law_pick : FSpec) (sp__law_raised : FSpec) (sp__law_same : FSpec) (sp__law_some_hive : FSpec) (sp__law_spoilt : FSpec) (sp__law_take : FSpec) (sp__law_turned : FSpec) (sp_border : FSpec) (sp_is_hive : FSpec) (sp_turned_hive : FSpec) : RS := (rSeq (rFor (iR1 (rC (.int 3))) (gN 2) (rFrz 1 (rSeq (rAsg 3 (rOp fAdd (rC (.int 1)) (rCallU sp__law_take (fCons (rVar 1) (fCons (rC (.int 6)) fNil)))))
    (rFrz 1 (rFrz 3 (rSeq (rAsg 4 (rCallU sp__law_some_hive (fCons (rVar 1) (fCons (rVar 3) (fCons (rCallU sp__law_pick (fCons (rVar 1) (fCons (rLst (fCons (rC (.int 1)) (fCons (rC (.int 3)) (fCons (rC (.int 50)) (fCons (rOp fPow (rC (.int 10)) (rC (.int 27))) fNil))))) fNil))) fNil)))))
    (rFrz 1 (rFrz 4 (rSeq (rIfS (tOrR (tNotR (tTru (rCallU sp__law_is_hive (fCons (rVar 4) fNil)))) (tNotR (tTru (rCallU sp__law_same (fCons (rCallU sp_is_hive (fCons (rCallU sp__law_handed (fCons (rVar 1) (fCons (rVar 4) fNil))) fNil)) (fCons (rC (.bl true)) fNil)))))) (rRet (rC (.bl false))) rNext)
    (rFrz 4 (rSeq (rAsg 5 (rCallU sp__law_border (fCons (rVar 4) fNil)))
    (rFrz 1 (rFrz 4 (rFrz 5 (rSeq (rIfS (tOrR (tTru (rCall fAny (rCons (rLc (iSeq (rVar 5)) (gN 12) rYes (rOp fNe (rCall fList (rCons (rSlot 12) rNil)) (rUn fRev (rCall fSortedA (rCons (rSlot 12) rNil)))) [12]) rNil))) (tNotR (tTru (rCallU sp__law_same (fCons (rCallU sp_border (fCons (rCallU sp__law_handed (fCons (rVar 1) (fCons (rVar 4) fNil))) fNil)) (fCons (rVar 5) fNil)))))) (rRet (rC (.bl false))) rNext)
    (rFrz 1 (rFrz 4 (rSeq (rAsg 6 (rCallU sp_turned_hive (fCons (rCallU sp__law_handed (fCons (rVar 1) (fCons (rVar 4) fNil))) fNil)))
    (rFrz 6 (rFrz 4 (rSeq (rIfS (tOrR (tNotR (tTru (rCallU sp__law_same (fCons (rVar 6) (fCons (rCallU sp__law_turned (fCons (rVar 4) fNil)) fNil))))) (tNotR (tTru (rCallU sp__law_same (fCons (rCallU sp_turned_hive (fCons (rCallU sp_turned_hive (fCons (rVar 6) fNil)) fNil)) (fCons (rVar 4) fNil)))))) (rRet (rC (.bl false))) rNext)
    (rSeq (rAsg 7 (rTup (fCons (rOp fIx (rSlot 5) (rC (.int 1))) (fCons (rCall fTuple (rCons (rLc (iSeq (rUn fRev (rOp fIxB (rSlot 5) (rC (.int 2))))) (gN 13) rYes (rUn fNeg (rSlot 13)) [13]) rNil)) (fCons (rCall fTuple (rCons (rLc (iSeq (rUn fRev (rOp fIxB (rSlot 5) (rC (.int 0))))) (gN 13) rYes (rUn fNeg (rSlot 13)) [13]) rNil)) fNil)))))
    (rFrz 6 (rSeq (rIfS (tOrR (tNotR (tTru (rCallU sp__law_same (fCons (rCallU sp_border (fCons (rVar 6) fNil)) (fCons (rVar 7) fNil))))) (tNotR (tTru (rCallU sp__law_same (fCons (rCallU sp_is_hive (fCons (rVar 6) fNil)) (fCons (rC (.bl true)) fNil)))))) (rRet (rC (.bl false))) rNext)
    (rFor (iR1 (rC (.int 8))) (gN 8) (rFrz 1 (rFrz 4 (rSeq (rAsg 9 (rCallU sp__law_spoilt (fCons (rVar 1) (fCons (rVar 4) fNil))))
    (rFrz 9 (rSeq (rAsg 10 (rCallU sp__law_is_hive (fCons (rVar 9) fNil)))
    (rFrz 9 (rFrz 10 (rSeq (rIfS (tNotR (tTru (rCallU sp__law_same (fCons (rCallU sp_is_hive (fCons (rVar 9) fNil)) (fCons (rVar 10) fNil))))) (rRet (rC (.bl false))) rNext)
    (rSeq (rAsg 11 (rIf (tTru (rSlot 10)) (rC .non) (rC (.bl true))))
    (rFrz 9 (rIfS (tNotR (tTru (rCallU sp__law_same (fCons (rLst (fCons (rCallU sp__law_raised (fCons (rC (.str (PySem.Str.ofString "border"))) (fCons (rVar 9) fNil))) (fCons (rCallU sp__law_raised (fCons (rC (.str (PySem.Str.ofString "turned"))) (fCons (rVar 9) fNil))) fNil))) (fCons (rLst (fCons (rVar 11) (fCons (rVar 11) fNil))) fNil))))) (rRet (rC (.bl false))) rNext))))))))))))))))))))))))))))))))))))
    (rRet (rC (.bl true))))
theorem ok_law (T : Txt K mg) {k : Nat} {sp__law_border : FSpec} {sp__law_handed : FSpec} {sp__law_is_hive : FSpec} {sp__law_pick : FSpec} {sp__law_raised : FSpec} {sp__law_same : FSpec} {sp__law_some_hive : FSpec} {sp__law_spoilt : FSpec} {sp__law_take : FSpec} {sp__law_turned : FSpec} {sp_border : FSpec} {sp_is_hive : FSpec} {sp_turned_hive : FSpec}
    (G__law_border : FnOk P w K mg base (L2.CX P w) k T.d__law_border.f T.d__law_border.fd ["hive"] (spOf K sp__law_border))
    (G__law_handed : FnOk P w K mg base (L2.CX P w) k T.d__law_handed.f T.d__law_handed.fd ["pool", "hive"] (spOf K sp__law_handed))
    (G__law_is_hive : FnOk P w K mg base (L2.CX P w) k T.d__law_is_hive.f T.d__law_is_hive.fd ["thing"] (spOf K sp__law_is_hive))
    (G__law_pick : FnOk P w K mg base (L2.CX P w) k T.d__law_pick.f T.d__law_pick.fd ["pool", "rows"] (spOf K sp__law_pick))
    (G__law_raised : FnOk P w K mg base (L2.CX P w) k T.d__law_raised.f T.d__law_raised.fd ["call", "thing"] (spOf K sp__law_raised))
    (G__law_same : FnOk P w K mg base (L2.CX P w) k T.d__law_same.f T.d__law_same.fd ["actual", "due"] (spOf K sp__law_same))
    (G__law_some_hive : FnOk P w K mg base (L2.CX P w) k T.d__law_some_hive.f T.d__law_some_hive.fd ["pool", "n", "size"] (spOf K sp__law_some_hive))
    (G__law_spoilt : FnOk P w K mg base (L2.CX P w) k T.d__law_spoilt.f T.d__law_spoilt.fd ["pool", "hive"] (spOf K sp__law_spoilt))
    (G__law_take : FnOk P w K mg base (L2.CX P w) k T.d__law_take.f T.d__law_take.fd ["pool", "many"] (spOf K sp__law_take))
    (G__law_turned : FnOk P w K mg base (L2.CX P w) k T.d__law_turned.f T.d__law_turned.fd ["hive"] (spOf K sp__law_turned))
    (G_border : FnOk P w K mg base (L2.CX P w) k T.d_border.f T.d_border.fd ["hive"] (spOf K sp_border))
    (G_is_hive : FnOk P w K mg base (L2.CX P w) k T.d_is_hive.f T.d_is_hive.fd ["hive"] (spOf K sp_is_hive))
    (G_turned_hive : FnOk P w K mg base (L2.CX P w) k T.d_turned_hive.f T.d_turned_hive.fd ["hive"] (spOf K sp_turned_hive))
    (cdv : Value) (A : Around) (outer : List Env) (s : Shared) (H : Hp) (E : XK) (hr : Room k (A.deeper (envOfC "law" (defScope s_law) s.heap.objs.size T.d_law.f cdv))) :
    SVs (cxOf (L2.CX P w) P w K mg base N_law "law" (defScope s_law) T.d_law.f cdv A outer s H E) (fun cls d _ H' => E cls d H') (defBody s_law).tail (t_law sp__law_border sp__law_handed sp__law_is_hive sp__law_pick sp__law_raised sp__law_same sp__law_some_hive sp__law_spoilt sp__law_take sp__law_turned sp_border sp_is_hive sp_turned_hive) :=
    have hu := hr.units
    (svs_cons (sv_for (vs := [2]) (passes_of rfl) rfl (vi_range1 (ve_int).be T.n_range) (pg_name (i := 2) sc_law.nd rfl (by first | exact Or.inl rfl | exact Or.inr rfl)) (tgT_name (by simp)) (svs_frz 1 (svs_cons (sv_set 3 (ve_add (ve_int).be ((ve_u T.d__law_take (takes_of rfl rfl rfl rfl) hr G__law_take (fa_cons (ve_var 1) (fa_cons ve_int fa_nil)))).be) sc_law.nd)
    (svs_frz 1 (svs_frz 3 (svs_cons (sv_set 4 (ve_u T.d__law_some_hive (takes_of rfl rfl rfl rfl) hr G__law_some_hive (fa_cons (ve_var 1) (fa_cons (ve_var 3) (fa_cons (ve_u T.d__law_pick (takes_of rfl rfl rfl rfl) hr G__law_pick (fa_cons (ve_var 1) (fa_cons (ve_lst (fa_cons ve_int (fa_cons ve_int (fa_cons ve_int (fa_cons (ve_pow (ve_int).be (ve_int).be) fa_nil))))) fa_nil))) fa_nil)))) sc_law.nd)
    (svs_frz 1 (svs_frz 4 (svs_cons (sv_if ((vw_or (vt_not (vt_truth ((ve_u T.d__law_is_hive (takes_of rfl rfl rfl rfl) hr G__law_is_hive (fa_cons (ve_var 4) fa_nil))).be)) (vw_or1 (vt_not (vt_truth ((ve_u T.d__law_same (takes_of rfl rfl rfl rfl) hr G__law_same (fa_cons (ve_u T.d_is_hive (takes_of rfl rfl rfl rfl) hr G_is_hive (fa_cons (ve_u T.d__law_handed (takes_of rfl rfl rfl rfl) hr G__law_handed (fa_cons (ve_var 1) (fa_cons (ve_var 4) fa_nil))) fa_nil)) (fa_cons ve_bl fa_nil)))).be))))).vt (svs_one (sv_ret ve_bl)) svs_nil)
    (svs_frz 4 (svs_cons (sv_set 5 (ve_u T.d__law_border (takes_of rfl rfl rfl rfl) hr G__law_border (fa_cons (ve_var 4) fa_nil)) sc_law.nd)
    (svs_frz 1 (svs_frz 4 (svs_frz 5 (svs_cons (sv_if ((vw_or (vt_truth ((ve_callB (cr_any rfl) callT_any T.n_any (by decide +kernel) (ba_cons ((ve_lc (own := [("row", 12)]) rfl sc_law.nd (vi_seq (ve_var 5)) (blkOk_by (N := N_law) (sc := defScope s_law) (by decide +kernel)) (fun _ _ _ _ _ => (pg_name (i := 12) sc_law.nd rfl (by first | exact Or.inl rfl | exact Or.inr rfl))) (tgT_name (by simp)) (fun _ _ _ _ _ => vts_nil) (fun _ _ _ _ _ => (ve_c (cNe hu) ((ve_callTy call_list_of callT_list T.n_list (by decide +kernel) (ba_cons (be_var 12) ba_nil))).be ((ve_rev ((ve_callB cr_sortedA callT_sortedA T.n_sorted (by decide +kernel) (ba_cons (be_var 12) ba_nil))).be)).be)))).be ba_nil))).be) (vw_or1 (vt_not (vt_truth ((ve_u T.d__law_same (takes_of rfl rfl rfl rfl) hr G__law_same (fa_cons (ve_u T.d_border (takes_of rfl rfl rfl rfl) hr G_border (fa_cons (ve_u T.d__law_handed (takes_of rfl rfl rfl rfl) hr G__law_handed (fa_cons (ve_var 1) (fa_cons (ve_var 4) fa_nil))) fa_nil)) (fa_cons (ve_var 5) fa_nil)))).be))))).vt (svs_one (sv_ret ve_bl)) svs_nil)
    (svs_frz 1 (svs_frz 4 (svs_cons (sv_set 6 (ve_u T.d_turned_hive (takes_of rfl rfl rfl rfl) hr G_turned_hive (fa_cons (ve_u T.d__law_handed (takes_of rfl rfl rfl rfl) hr G__law_handed (fa_cons (ve_var 1) (fa_cons (ve_var 4) fa_nil))) fa_nil)) sc_law.nd)
    (svs_frz 6 (svs_frz 4 (svs_cons (sv_if ((vw_or (vt_not (vt_truth ((ve_u T.d__law_same (takes_of rfl rfl rfl rfl) hr G__law_same (fa_cons (ve_var 6) (fa_cons (ve_u T.d__law_turned (takes_of rfl rfl rfl rfl) hr G__law_turned (fa_cons (ve_var 4) fa_nil)) fa_nil)))).be)) (vw_or1 (vt_not (vt_truth ((ve_u T.d__law_same (takes_of rfl rfl rfl rfl) hr G__law_same (fa_cons (ve_u T.d_turned_hive (takes_of rfl rfl rfl rfl) hr G_turned_hive (fa_cons (ve_u T.d_turned_hive (takes_of rfl rfl rfl rfl) hr G_turned_hive (fa_cons (ve_var 6) fa_nil)) fa_nil)) (fa_cons (ve_var 4) fa_nil)))).be))))).vt (svs_one (sv_ret ve_bl)) svs_nil)
    (svs_cons (sv_set 7 (ve_tup (fa_cons (ve_ix (be_var 5) (ve_int).be) (fa_cons (ve_callTy call_tuple_of callT_tuple T.n_tuple (by decide +kernel) (ba_cons ((ve_lc (own := [("part", 13)]) rfl sc_law.nd (vi_seq (ve_rev (be_ix (be_var 5) (ve_int).be))) (blkOk_by (N := N_law) (sc := defScope s_law) (by decide +kernel)) (fun _ _ _ _ _ => (pg_name (i := 13) sc_law.nd rfl (by first | exact Or.inl rfl | exact Or.inr rfl))) (tgT_name (by simp)) (fun _ _ _ _ _ => vts_nil) (fun _ _ _ _ _ => (ve_neg (be_var 13))))).be ba_nil)) (fa_cons (ve_callTy call_tuple_of callT_tuple T.n_tuple (by decide +kernel) (ba_cons ((ve_lc (own := [("part", 13)]) rfl sc_law.nd (vi_seq (ve_rev (be_ix (be_var 5) (ve_int).be))) (blkOk_by (N := N_law) (sc := defScope s_law) (by decide +kernel)) (fun _ _ _ _ _ => (pg_name (i := 13) sc_law.nd rfl (by first | exact Or.inl rfl | exact Or.inr rfl))) (tgT_name (by simp)) (fun _ _ _ _ _ => vts_nil) (fun _ _ _ _ _ => (ve_neg (be_var 13))))).be ba_nil)) fa_nil)))) sc_law.nd)
    (svs_frz 6 (svs_cons (sv_if ((vw_or (vt_not (vt_truth ((ve_u T.d__law_same (takes_of rfl rfl rfl rfl) hr G__law_same (fa_cons (ve_u T.d_border (takes_of rfl rfl rfl rfl) hr G_border (fa_cons (ve_var 6) fa_nil)) (fa_cons (ve_var 7) fa_nil)))).be)) (vw_or1 (vt_not (vt_truth ((ve_u T.d__law_same (takes_of rfl rfl rfl rfl) hr G__law_same (fa_cons (ve_u T.d_is_hive (takes_of rfl rfl rfl rfl) hr G_is_hive (fa_cons (ve_var 6) fa_nil)) (fa_cons ve_bl fa_nil)))).be))))).vt (svs_one (sv_ret ve_bl)) svs_nil)
    (svs_one (sv_for (vs := [8]) (passes_of rfl) rfl (vi_range1 (ve_int).be T.n_range) (pg_name (i := 8) sc_law.nd rfl (by first | exact Or.inl rfl | exact Or.inr rfl)) (tgT_name (by simp)) (svs_frz 1 (svs_frz 4 (svs_cons (sv_set 9 (ve_u T.d__law_spoilt (takes_of rfl rfl rfl rfl) hr G__law_spoilt (fa_cons (ve_var 1) (fa_cons (ve_var 4) fa_nil))) sc_law.nd)
    (svs_frz 9 (svs_cons (sv_set 10 (ve_u T.d__law_is_hive (takes_of rfl rfl rfl rfl) hr G__law_is_hive (fa_cons (ve_var 9) fa_nil)) sc_law.nd)
    (svs_frz 9 (svs_frz 10 (svs_cons (sv_if (vt_not (vt_truth ((ve_u T.d__law_same (takes_of rfl rfl rfl rfl) hr G__law_same (fa_cons (ve_u T.d_is_hive (takes_of rfl rfl rfl rfl) hr G_is_hive (fa_cons (ve_var 9) fa_nil)) (fa_cons (ve_var 10) fa_nil)))).be)) (svs_one (sv_ret ve_bl)) svs_nil)
    (svs_cons (sv_set 11 (ve_ifExp (vt_truth (be_var 10)) ve_non ve_bl) sc_law.nd)
    (svs_frz 9 (svs_one (sv_if (vt_not (vt_truth ((ve_u T.d__law_same (takes_of rfl rfl rfl rfl) hr G__law_same (fa_cons (ve_lst (fa_cons (ve_u T.d__law_raised (takes_of rfl rfl rfl rfl) hr G__law_raised (fa_cons ve_str (fa_cons (ve_var 9) fa_nil))) (fa_cons (ve_u T.d__law_raised (takes_of rfl rfl rfl rfl) hr G__law_raised (fa_cons ve_str (fa_cons (ve_var 9) fa_nil))) fa_nil))) (fa_cons (ve_lst (fa_cons (ve_var 11) (fa_cons (ve_var 11) fa_nil))) fa_nil)))).be)) (svs_one (sv_ret ve_bl)) svs_nil))))))))))))))))))))))))))))))))))))))
    (svs_one (sv_ret ve_bl)))

end
end K36

namespace K36
open PySem PySem.Spec PyProof.Rows L2 TLY
/-! ### the pool of draws -/
section
variable {P : Program} {w : World} {K : PySem.W.Frag} {mg : Str → Option Value} {base : Heap}
theorem fn_no {f : Addr} {fd : FuncData} {ps : List Str} {k : Nat} : FnOk P w K mg base (L2.CX P w) k f fd ps (fun _ _ _ _ => False) := ⟨fun _ _ _ _ h => h.elim, fun _ _ _ _ _ _ _ _ _ _ _ _ _ h => h.elim⟩
/-- _law_take: any number below many; dpos: what is left of a great cell is asked first -/
def spTk (K : PySem.W.Frag) (dpos : Bool) : Sp := fun vs H Q _ => ∃ pa F n, vs = [.ref pa, .int n] ∧ Good K pa F H ∧ 0 < n ∧ n.natAbs.log2 < 9000 ∧ (dpos = true → ∃ a i d s, H pa = some (.lst [a, i, .int d, s]) ∧ 0 < d) ∧
  ∀ r F' H', 0 ≤ r → r < n → Grow K pa F H F' H' → Q (.int r) H'
def fTake : FSpec := fun args Q _ => ∃ n : Int, args = [.pool, .int n] ∧ 0 < n ∧ n.natAbs.log2 < 9000 ∧ ∀ d : Int, 0 ≤ d → d < n → Q (.p (.int d))
theorem spTk_of {vs : List V} {H : Hp} {Q : VK} {E : XK} (h : spOf K fTake vs H Q E) : spTk K false vs H Q E := by
  obtain ⟨pa, F, args, Qt, Et, g, r, ⟨n, rfl, h1, h2, q⟩, k, _⟩ := h
  cases r with
  | cons r1 r2 =>
    cases r2 with
    | cons r2 r3 =>
      cases r3
      cases r1
      cases r2
      exact ⟨pa, F, n, rfl, g, h1, h2, fun z => Bool.noConfusion z, fun r F' H' a b gg => k _ _ F' H' (q r a b) gg (.pure (.int _))⟩
theorem ix_p {σ : L2.St} {H : Hp} {Q : VK} {pa : Addr} {xs : List V} {k : Int} {v : V} (h0 : σ[0]? = some (some (V.ref pa))) (hp : H pa = some (.lst xs)) (e : L2.atI xs k = some v) (q : Q v H) : tOp (rIx K) (tVar 0) (tC (.int k)) σ H Q :=
  ⟨_, h0, .inl ⟨pa, xs, k, v, rfl, rfl, .inl (.inl hp), e, q⟩⟩
theorem set_p {σ : L2.St} {H : Hp} {Q : L2.St → Hp → Prop} {pa : Addr} {xs : List V} {k : Int} {v : V} {j : Nat} (h0 : σ[0]? = some (some (V.ref pa))) (hp : H pa = some (.lst xs)) (e : ixN xs.length k = some j) (q : Q σ (upd H pa (.lst (xs.set j v)))) : gSub (tVar 0) (tC (.int k)) rSetL v σ H Q :=
  ⟨_, h0, pa, xs, k, j, rfl, rfl, hp, e, q⟩
theorem pool_grow {pa q : Addr} {F H : Hp} {ns : List Int} {i d s : Int} (g : Good K pa F H) (hq : SqL K F q (ns.map V.int)) (hi : 0 ≤ i) (hd : 0 ≤ d) (hs : 0 ≤ s) (hs2 : s < 2147483647) (hn : ∀ z ∈ ns, 0 ≤ z) : Grow K pa F H F (upd H pa (.lst [.ref q, .int i, .int d, .int s])) where
  f := Same.refl _
  keep := fun b o h n => by rw [upd_ne n]; exact h
  new := fun b o h => .inl h
  good := ⟨fun b o h => by
    have ne : b ≠ pa := fun z => by rw [z, g.pool.out] at h; cases h
    rw [upd_ne ne]; exact g.sub b o h, g.pool.out, q, ns, i, d, s, upd_same, hq, hi, hd, hs, hs2, hn⟩
theorem cell_step {D : Ends} {H : Hp} {pa q : Addr} {n i d st : Int} {ns : List Int} (e : H pa = some (.lst [.ref q, .int i, .int d, .int st])) (hq : SqL K H q (ns.map V.int)) (hi : 0 ≤ i) (hns : ∀ z ∈ ns, 0 ≤ z)
    (k : ∀ (c : Int) (σ' : L2.St), 0 ≤ c → σ' = [some (.ref pa), some (.int n), none, some (.int c), none] → D.nx σ' H) :
    tIfS (tTest (tOp (rI0 fun i j => V.bl (decide (i < j))) (tOp (rIx K) (tVar 0) (tC (V.int 1))) (tCB (fun xs H_1 Q => ∃ x n, xs = [x] ∧ LenV K x H_1 n ∧ Q (V.int ↑n) H_1) (tCons (tOp (rIx K) (tVar 0) (tC (V.int 0))) tNil))))
      (tAsg (tOp (rIx K) (tOp (rIx K) (tVar 0) (tC (V.int 0))) (tOp (rIx K) (tVar 0) (tC (V.int 1)))) (gName 3)) tNext D [some (.ref pa), some (.int n), none, some (.int 0), none] H := by
  refine ix_p rfl e rfl (ix_p rfl e rfl ⟨.ref q, ns.length, rfl, .inl ⟨_, hq, by rw [List.length_map]⟩, i, ns.length, rfl, rfl, _, rfl, ?_⟩)
  by_cases c : i < (ns.length : Int)
  · rw [decide_eq_true c]
    refine iteT ?_
    have lt : i.toNat < ns.length := by omega
    refine ix_p rfl e rfl (ix_p rfl e rfl (.inl ⟨q, ns.map V.int, i, .int ns[i.toNat], rfl, rfl, hq, ?_, k _ _ (hns _ (List.getElem_mem lt)) rfl⟩))
    unfold L2.atI ixN
    rw [List.length_map, if_pos hi, if_pos c]
    show (ns.map V.int)[i.toNat]? = _
    rw [List.getElem?_map, List.getElem?_eq_getElem lt]
    rfl
  · rw [decide_eq_false c]
    exact iteF (k _ _ (Int.le_refl _) rfl)
abbrev N__law_take : List Str := ["pool", "many", "digit", "cell", "mixed"]
theorem sc__law_take : FnScope N__law_take ["pool", "many"] (defScope s__law_take) := ⟨rfl, rfl, rfl, by decide +kernel, rfl, by decide +kernel, by decide +kernel⟩
theorem ok_take1 (T : Txt K mg) {k : Nat} {sp0 : Sp} (G : FnOk P w K mg base (L2.CX P w) k T.d__law_take.f T.d__law_take.fd ["pool", "many"] sp0) (dpos : Bool) (hsp : dpos = true ∨ sp0 = spTk K true) :
    FnOk P w K mg base (L2.CX P w) (k + 1) T.d__law_take.f T.d__law_take.fd ["pool", "many"] (spTk K dpos) := by
  refine T.d__law_take.F.okX sc__law_take (fun vs H Q E h => ?_) (fun cdv A outer s H vs Q E hr h => ?_)
  · obtain ⟨pa, F, n, rfl, _⟩ := h
    rfl
  have nd := sc__law_take.nd
  have it : ∀ {X : Cx} {a b : Expr} {ta tb : TE} {pos : Pos}, X.K = K → PE X a ta → PE X b tb → PlainIx b → PE X (.Subscript a b pos) (tOp (rIx K) ta tb) := fun e ha hb hs => e ▸ pe_ix ix_seq ha hb hs
  have ti := T.n_int
  have tl := T.n_len
  have body : PSs (cxOf (L2.CX P w) P w K mg base N__law_take "_law_take" (defScope s__law_take) T.d__law_take.f cdv A outer s H E) (defBody s__law_take) _ :=
    (pss_cons (ps_if (pt_cmpR op_gt (it rfl (pv 0) pe_int (fun _ _ => rfl)) pe_int (nomark _))
      (pss_cons (ps_set (i := 2) nd rfl (Or.inl rfl) (pe_op op_mod (pe_callTy call_int1 rfl ti (by decide +kernel) (pa_cons (it rfl (pv 0) pe_int (fun _ _ => rfl)) pa_nil)) (pv 1)))
      (pss_cons (ps_asg (pe_op op_fdivW (it rfl (pv 0) pe_int (fun _ _ => rfl)) (pv 1)) (pg_sub (pv 0) pe_int set_list))
      (pss_one (ps_ret (pv 2))))) pss_nil)
    (pss_cons (ps_set (i := 3) nd rfl (Or.inl rfl) pe_int)
    (pss_cons (ps_if (pt_cmpR op_lt (it rfl (pv 0) pe_int (fun _ _ => rfl)) (pe_callB call_len rfl tl (by decide +kernel) (pa_cons (it rfl (pv 0) pe_int (fun _ _ => rfl)) pa_nil)) (nomark _))
      (pss_one (ps_set (i := 3) nd rfl (Or.inl rfl) (it rfl (it rfl (pv 0) pe_int (fun _ _ => rfl)) (it rfl (pv 0) pe_int (fun _ _ => rfl)) (fun _ _ => rfl)))) pss_nil)
    (pss_cons (ps_asg (pe_op op_add (it rfl (pv 0) pe_int (fun _ _ => rfl)) pe_int) (pg_sub (pv 0) pe_int set_list))
    (pss_cons (ps_if (pt_cmpR op_ge (pv 3) (pe_op op_pow pe_int pe_int) (nomark _))
      (pss_cons (ps_asg (pe_op op_fdivW (pv 3) pe_int) (pg_sub (pv 0) pe_int set_list))
      (pss_one (ps_ret (pe_callSD (dvs := []) (E := fun _ => E) G hr rfl T.d__law_take.g T.d__law_take.F.kp T.d__law_take.b .nil (fun σ => passAt (takes_of rfl rfl rfl rfl) σ) (pa_cons (pv 0) (pa_cons (pv 1) pa_nil)))))) pss_nil)
    (pss_cons (ps_asg (pe_op op_mod (pe_callTy call_int1 rfl ti (by decide +kernel) (pa_cons (pe_op op_add (pe_op op_add (pe_op op_mul (it rfl (pv 0) pe_int (fun _ _ => rfl)) pe_int) (pe_op op_mul (pv 3) pe_int)) (pe_op op_mul (it rfl (pv 0) pe_int (fun _ _ => rfl)) pe_int)) pa_nil)) pe_int) (pg_sub (pv 0) pe_int set_list))
    (pss_cons (ps_set (i := 4) nd rfl (Or.inl rfl) (pe_op op_mod (pe_callTy call_int1 rfl ti (by decide +kernel) (pa_cons (pe_op op_add (pe_op op_add (pe_op op_mul (it rfl (pv 0) pe_int (fun _ _ => rfl)) (it rfl (pv 0) pe_int (fun _ _ => rfl))) (pe_op op_mul (it rfl (pv 0) pe_int (fun _ _ => rfl)) pe_int)) pe_int) pa_nil)) pe_int))
    (pss_one (ps_ret (pe_op op_mod (pe_callTy call_int1 rfl ti (by decide +kernel) (pa_cons (pe_op op_fdivW (pv 4) pe_int) pa_nil)) (pv 1)))))))))))
  refine ⟨_, body, ?_⟩
  obtain ⟨pa, F, n, rfl, g, hn, hl, hdp, k⟩ := h
  obtain ⟨o1, q, ns, i, d, st, e, hq, hi, hd, hs, hs2, hns⟩ := id g.pool
  have bM : ∀ x : Int, 0 < x → 0 ≤ x := fun x h => by omega
  refine ix_p rfl e rfl ⟨d, 0, rfl, rfl, _, rfl, ?_⟩
  by_cases dp : 0 < d
  · rw [decide_eq_true dp]
    refine iteT ?_
    refine ix_p rfl e rfl (.inl ⟨d, rfl, _, rfl, d, n, rfl, rfl, hn, ?_⟩)
    refine ix_p rfl e rfl ⟨_, rfl, d, n, rfl, rfl, ⟨hn, hl⟩, set_p rfl e rfl ?_⟩
    refine ⟨_, rfl, k _ F _ (Int.emod_nonneg _ (by omega)) (Int.emod_lt_of_pos _ hn) (pool_grow g hq hi (Int.ediv_nonneg hd (by omega)) hs hs2 hns)⟩
  · rw [decide_eq_false dp]
    refine iteF ?_
    have dpf : dpos = false := by
      cases dpos with
      | false => rfl
      | true =>
        obtain ⟨a, i', d', s', e', z⟩ := hdp rfl
        rw [e] at e'
        simp at e'
        omega
    obtain rfl : sp0 = spTk K true := by
      rcases hsp with z | z
      · rw [dpf] at z; cases z
      · exact z
    have hqH : ∀ {F' H'}, Grow K pa F H F' H' → SqL K H' q (ns.map V.int) := fun {F' H'} gg => gg.good.sub.seq (gg.f.seq hq)
    refine cell_step e (hqH (.refl g)) hi hns fun c σ' hc es => ?_
    subst es
    refine ix_p rfl e rfl ⟨i, 1, rfl, rfl, set_p rfl e rfl ?_⟩
    have hi1 : 0 ≤ i + 1 := by omega
    have g1 := pool_grow (i := i + 1) g hq hi1 hd hs hs2 hns
    have e1 : upd H pa (.lst [.ref q, .int (i + 1), .int d, .int st]) pa = some (.lst [.ref q, .int (i + 1), .int d, .int st]) := upd_same
    show tSeq _ _ _ _ (upd H pa (.lst [.ref q, .int (i + 1), .int d, .int st]))
    generalize upd H pa (.lst [.ref q, .int (i + 1), .int d, .int st]) = H1 at g1 e1 ⊢
    refine ⟨_, rfl, 10, 18, rfl, rfl, ⟨by decide, by decide, by decide⟩, c, _, rfl, rfl, _, rfl, ?_⟩
    by_cases big : (10 : Int) ^ (18 : Int).toNat ≤ c
    · rw [decide_eq_true big]
      refine iteT ?_
      refine ⟨_, rfl, c, 2, rfl, rfl, ⟨by decide, by decide⟩, set_p rfl e1 rfl ?_⟩
      have b2 : (1000000000000000000 : Int) ≤ c := by
        have z : (10 : Int) ^ (18 : Int).toNat = 1000000000000000000 := by decide
        rw [z] at big; exact big
      have g2 := pool_grow (i := i + 1) (d := c / 2) g1.good (g1.f.seq hq) hi1 (by omega) hs hs2 hns
      refine ⟨_, rfl, _, rfl, ?_⟩
      refine ⟨pa, F, n, rfl, g2.good, hn, hl, fun _ => ⟨_, _, c / 2, _, upd_same, by omega⟩, fun r F' H' a b gg => k r F' H' a b ((g1.trans g2).trans gg)⟩
    · rw [decide_eq_false big]
      refine iteF ?_
      refine ix_p rfl e1 rfl ⟨st, 48271, rfl, rfl, .inr ⟨by decide, by decide⟩, ?_⟩
      refine ⟨_, rfl, c, 69621, rfl, rfl, .inr ⟨by decide, by decide⟩, _, _, rfl, rfl, ?_⟩
      refine ix_p rfl e1 rfl ⟨i + 1, 613, rfl, rfl, .inr ⟨by decide, by decide⟩, _, _, rfl, rfl, .inl ⟨_, rfl, _, _, rfl, rfl, (show (0 : Int) < 2147483647 by decide), set_p rfl e1 rfl ?_⟩⟩
      show tSeq _ _ _ _ (upd H1 pa (.lst [.ref q, .int (i + 1), .int d, .int ((st * 48271 + c * 69621 + (i + 1) * 613) % 2147483647)]))
      generalize hst : (st * 48271 + c * 69621 + (i + 1) * 613) % 2147483647 = st'
      have s1 : 0 ≤ st' := by rw [← hst]; exact Int.emod_nonneg _ (by decide)
      have s2 : st' < 2147483647 := by rw [← hst]; exact Int.emod_lt_of_pos _ (by decide)
      have g2 := pool_grow (i := i + 1) (d := d) (s := st') g1.good (g1.f.seq hq) hi1 hd s1 s2 hns
      have e2 : upd H1 pa (.lst [.ref q, .int (i + 1), .int d, .int st']) pa = some (.lst [.ref q, .int (i + 1), .int d, .int st']) := upd_same
      generalize upd H1 pa (.lst [.ref q, .int (i + 1), .int d, .int st']) = H2 at g2 e2 ⊢
      refine ix_p rfl e2 rfl (ix_p rfl e2 rfl ⟨st', st', rfl, rfl, .inr ⟨by omega, by omega⟩, ?_⟩)
      refine ix_p rfl e2 rfl ⟨st', 7919, rfl, rfl, .inr ⟨by decide, by decide⟩, _, _, rfl, rfl, _, _, rfl, rfl, .inl ⟨_, rfl, _, _, rfl, rfl, (show (0 : Int) < 1000000007 by decide), ?_⟩⟩
      refine ⟨_, rfl, _, _, rfl, rfl, ⟨by decide, by decide⟩, .inl ⟨_, rfl, _, rfl, _, _, rfl, rfl, hn, ?_⟩⟩
      exact k _ F H2 (Int.emod_nonneg _ (by omega)) (Int.emod_lt_of_pos _ hn) (g1.trans g2)
theorem ok__law_take (T : Txt K mg) : FnOk P w K mg base (L2.CX P w) 2 T.d__law_take.f T.d__law_take.fd ["pool", "many"] (spOf K fTake) :=
  (ok_take1 T (ok_take1 T (fn_no (k := 0)) true (.inl rfl)) false (.inr rfl)).imp fun _ _ _ _ h => spTk_of h
end
end K36

namespace K36
open PySem PySem.Spec PyProof.Rows L2 TLY
section
variable {P : Program} {w : World} {K : PySem.W.Frag} {mg : Str → Option Value} {base : Heap}
/-- _law_pool: a new pool whose cells are no less than 0 -/
def spPool (K : PySem.W.Frag) : Sp := fun vs H Q _ => ∃ (a : Addr) (ns : List Int), vs = [.ref a] ∧ SqL K H a (ns.map V.int) ∧ ns.length ≤ sizeLine ∧
  ∀ (q p : Addr) (ms : List Int), (∀ z ∈ ms, 0 ≤ z) → H q = none → p ≠ q → H p = none → Q (.ref p) (upd (upd H q (.lst (ms.map V.int))) p (.lst [.ref q, .int 0, .int 0, .int 17]))
abbrev N__law_pool : List Str := ["script", "cell"]
theorem sc__law_pool : FnScope N__law_pool ["script"] (defScope s__law_pool) := ⟨rfl, rfl, rfl, by decide +kernel, rfl, by decide +kernel, by decide +kernel⟩
theorem ok__law_pool (T : Txt K mg) {k : Nat} : FnOk P w K mg base (L2.CX P w) (k + 1) T.d__law_pool.f T.d__law_pool.fd ["script"] (spPool K) := by
  refine T.d__law_pool.F.okX sc__law_pool (fun vs H Q E h => ?_) (fun cdv A outer s H vs Q E hr h => ?_)
  · obtain ⟨a, ns, rfl, _⟩ := h
    rfl
  have nd := sc__law_pool.nd
  have body : PSs (cxOf (L2.CX P w) P w K mg base N__law_pool "_law_pool" (defScope s__law_pool) T.d__law_pool.f cdv A outer s H E) (defBody s__law_pool) _ :=
    (pss_one (ps_ret (pe_lst (pa_cons (pe_lc (own := [("cell", 1)]) rfl nd (pi_list (pv 0)) (blkOk_by (N := N__law_pool) (sc := defScope s__law_pool) (by decide +kernel))
      (fun _ _ _ _ _ => pg_name (i := 1) nd rfl (by first | exact Or.inl rfl | exact Or.inr rfl)) (fun _ _ _ _ _ => pts_nil)
      (fun _ _ _ _ _ => pe_ifExp (pt_cmpR op_ge (pv 1) pe_int (nomark _)) (pe_op op_mul pe_int (pv 1)) (pe_op op_sub (pe_op op_mul (pe_un un_neg pe_int) (pv 1)) pe_int)))
      (pa_cons pe_int (pa_cons pe_int (pa_cons pe_int pa_nil)))))))
  refine ⟨_, body, ?_⟩
  obtain ⟨a, ns, rfl, hS, hz, kq⟩ := h
  refine ⟨_, rfl, a, rfl, ⟨_, hS⟩, fun D hD => ?_⟩
  have tos : ∀ {D : Addr} {vs : List V}, H D = none → SqL K (upd H D (.lst vs)) a (ns.map V.int) := fun {D vs} hD => (show Same H (upd H D (.lst vs)) from fun b o q => by rw [upd_ne (ne_of_none q hD)]; exact q).seq hS
  have u2 : ∀ (x y : HO), upd (upd H D x) D y = upd H D y := fun x y => by
    funext b
    by_cases z : b = D
    · subst z; rw [upd_same, upd_same]
    · rw [upd_ne z, upd_ne z, upd_ne z]
  refine lc_list (K := K) (a := a) (xs := ns.map V.int) (fun i H' => ∃ ms : List Int, ms.length = i ∧ (∀ z ∈ ms, 0 ≤ z) ∧ H' = upd H D (.lst (ms.map V.int))) ⟨[], rfl, by simp, rfl⟩ (fun i H' _ ⟨ms, _, _, e⟩ => e ▸ tos hD) ?_ ?_
  · rintro i x H' hi ⟨ms, hl, hp, rfl⟩
    rw [List.getElem?_map] at hi
    cases e : ns[i]? with
    | none => rw [e] at hi; cases hi
    | some c =>
      rw [e] at hi
      obtain rfl : V.int c = x := Option.some.inj hi
      have hlt : i < ns.length := by
        rcases Nat.lt_or_ge i ns.length with z | z
        · exact z
        · rw [List.getElem?_eq_none z] at e; cases e
      refine ⟨rfl, ?_⟩
      unfold tYes
      simp only [↓reduceIte]
      refine ⟨_, rfl, c, 0, rfl, rfl, _, rfl, ?_⟩
      have fin : ∀ y : Int, 0 ≤ y → ∃ acc, upd H D (.lst (ms.map V.int)) D = some (.lst acc) ∧ acc.length < sizeLine ∧ ∃ ms' : List Int, ms'.length = i + 1 ∧ (∀ z ∈ ms', 0 ≤ z) ∧ upd (upd H D (.lst (ms.map V.int))) D (.lst (acc ++ [V.int y])) = upd H D (.lst (ms'.map V.int)) := fun y hy =>
        ⟨_, upd_same, by rw [List.length_map, hl]; exact Nat.lt_of_lt_of_le hlt hz, ms ++ [y], by rw [List.length_append, hl]; rfl, fun z hz => by
          rcases List.mem_append.mp hz with q | q
          · exact hp z q
          · obtain rfl : z = y := by simpa using q
            exact hy, by rw [u2, List.map_append]; rfl⟩
      by_cases c0 : 0 ≤ c
      · rw [decide_eq_true c0]
        refine iteT ⟨_, rfl, _, _, rfl, rfl, .inl ⟨by decide, by decide⟩, fin _ (by omega)⟩
      · rw [decide_eq_false c0]
        refine iteF ⟨_, rfl, _, rfl, _, _, rfl, rfl, .inl ⟨by decide, by decide⟩, _, _, rfl, rfl, fin _ (by omega)⟩
  · rintro H' ⟨ms, hl, hp, rfl⟩
    refine ⟨show 4 ≤ sizeLine by rw [sizeLine_eq]; decide, fun p hp' => ?_⟩
    have ne : p ≠ D := fun z => by rw [z, upd_same] at hp'; cases hp'
    rw [upd_ne ne] at hp'
    exact kq D p ms hp hD ne hp'
/-- law: whatever is drawn, True -/
def spLaw (K : PySem.W.Frag) : Sp := fun vs H Q _ => ∃ (a : Addr) (ns : List Int), vs = [.ref a] ∧ SqL K H a (ns.map V.int) ∧ ns.length ≤ sizeLine ∧ ∀ H', Q (.bl true) H'
def lawEnds : EndsR := { nx := fun _ => False, rt := fun s _ => s = .p (.bl true), bk := fun _ => False, ct := fun _ => False, ex := fun _ => False }
def lawStart (N : List Str) : Sl := none :: some (.p .pool) :: List.replicate (N.length - 2) none
theorem law_rel {p q : Addr} {H : Hp} {ms : List Int} {N : List Str} {a : V} (hN : 2 ≤ N.length) (hm : ∀ z ∈ ms, 0 ≤ z) (hq : H q = none) (ne : p ≠ q) (hp : H p = none) :
    Rel K ⟨p, upd (fun _ => none) q (.lst (ms.map V.int)), upd (upd H q (.lst (ms.map V.int))) p (.lst [.ref q, .int 0, .int 0, .int 17]), [], N.length⟩ (upd (fun _ => none) q (.lst (ms.map V.int))) (upd (upd H q (.lst (ms.map V.int))) p (.lst [.ref q, .int 0, .int 0, .int 17]))
      ((L2.start N [a]).set 1 (some (.ref p))) (lawStart N) (fun _ => []) where
  ext := ⟨Same.refl _, fun b o h _ _ => h, fun b h => h, fun b o h => .inl h, ⟨fun b o h => (by
      by_cases z : b = q
      · subst z; rw [upd_same] at h; rw [upd_ne (Ne.symm ne), upd_same]; exact h
      · rw [upd_ne z] at h; cases h), ⟨by rw [upd_ne ne], q, ms, 0, 0, 17, upd_same, .inl (.inl upd_same), by decide, by decide, by decide, by decide, hm⟩⟩⟩
  num := by
    rw [List.length_set]
    unfold L2.start
    rw [List.length_append, List.length_map, List.length_replicate]
    simp; omega
  slot := fun i => by
    obtain ⟨m, hm'⟩ : ∃ m, N.length = m + 2 := ⟨N.length - 2, by omega⟩
    have e1 : L2.start N [a] = some a :: none :: List.replicate m none := by
      unfold L2.start
      rw [hm']
      rfl
    have e2 : lawStart N = none :: some (.p .pool) :: List.replicate m none := by
      unfold lawStart
      rw [hm']
      rfl
    rw [e1, e2]
    match i with
    | 0 => exact .no
    | 1 => exact .val (.p .pool)
    | i + 2 =>
      show SlotR K p _ _ (List.replicate m none)[i]? (List.replicate m none)[i]? []
      by_cases h : i < m
      · rw [List.getElem?_replicate, List.getElem?_replicate, if_pos h, if_pos h]; exact .no
      · rw [List.getElem?_replicate, List.getElem?_replicate, if_neg h, if_neg h]; exact .out
  nd := fun i => List.nodup_nil
  dj := fun i j a h => by simp at h
  own := fun i a h => by simp at h
theorem ok_law_end (T : Txt K mg) {k : Nat} {t : RS}
    (tail : ∀ (cdv : Value) (A : Around) (outer : List Env) (s : Shared) (H : Hp) (E : XK), Room (k + 1) (A.deeper (envOfC "law" (defScope s_law) s.heap.objs.size T.d_law.f cdv)) →
      SVs (cxOf (L2.CX P w) P w K mg base N_law "law" (defScope s_law) T.d_law.f cdv A outer s H E) (fun cls d _ H' => E cls d H') (defBody s_law).tail t)
    (pure : t lawEnds (lawStart N_law)) : FnOk P w K mg base (L2.CX P w) (k + 2) T.d_law.f T.d_law.fd ["script"] (spLaw K) := by
  refine T.d_law.F.okX sc_law (fun vs H Q E h => ?_) (fun cdv A outer s H vs Q E hr h => ?_)
  · obtain ⟨a, ns, rfl, _⟩ := h
    rfl
  have body : PSs (cxOf (L2.CX P w) P w K mg base N_law "law" (defScope s_law) T.d_law.f cdv A outer s H E) (defBody s_law) _ :=
    (pss_cons (ps_set (i := 1) sc_law.nd rfl (Or.inl rfl) (pe_callSD (dvs := []) (E := fun _ => E) (ok__law_pool T (k := k)) hr rfl T.d__law_pool.g T.d__law_pool.F.kp T.d__law_pool.b .nil (fun σ => passAt (takes_of rfl rfl rfl rfl) σ) (pa_cons (pv 0) pa_nil))) (tail cdv A outer s H E hr).run)
  refine ⟨_, body, ?_⟩
  obtain ⟨a, ns, rfl, hS, hz, kq⟩ := h
  refine ⟨_, rfl, a, ns, rfl, hS, hz, fun q p ms hm hq ne hp => ?_⟩
  refine ⟨_, _, _, _, lawEnds, law_rel (by decide) hm hq ne hp, pure, ⟨fun _ _ _ _ _ _ h => h.elim, fun _ _ _ _ _ _ h => h.elim, fun _ _ _ _ _ _ h => h.elim, fun σ F' H' e v s r h => ?_, fun _ _ _ _ _ _ _ _ _ h => h.elim⟩⟩
  obtain ⟨O, L, rl, ow, _⟩ := r
  have h' : s = .p (.bl true) := h
  subst h'
  cases ow with
  | p r =>
    cases r
    exact kq _
end
end K36

namespace K36
open PySem PySem.Spec PyProof.Rows L2 TLY
/-! ### numbers -/
def isNum : T → Bool
  | .int _ => true
  | _ => false
def fNum : FSpec := fun args Q _ => ∃ t, args = [t] ∧ t.cls?.isSome = true ∧ Q (.p (.bl (isNum t)))
theorem num_law : ∀ args Q E, fNum args Q E → specOf N_is_number 1 t_is_number args Q E := by
  rintro args Q E ⟨t, rfl, h1, h⟩
  refine ⟨rfl, ?_⟩
  cases t <;> simp [t_is_number, rRet, rRetN, rRetV, rSeq, rNext, rDrop, rAsg, rIfS, rIf, rAnd, rOr, rSlot, rVar, rC, rOp, rUn, rCall, rCallU, fCons, fNil, rCons, rNil, rTup, rLst, rIsI, tTru, tOpT, tNotR, tAndR, tOrR, tChT, rChain, asB_bl, fAdd_int, fSub_int, fLt_int, fLe_int, fGt_int, fGe_int, fEq_int, fNe_int, fEq_bl, fEq_str, fIsN_non, fIx_int, fIxB_p, fIxB_l1, fIxB_l2, fLen_one, fNot, S.lst?, S.seq?, S.size?, S.truth?, S.cls?, T.cls?, S.isi, subT, S.fz, TLY.slotAt, startE, List.set_cons_zero, List.set_cons_succ, TLY.specOf, rApp, gN, isNum] at h1 h ⊢ <;> exact h
theorem num_law2 : ∀ args Q E, fNum args Q E → specOf N__law_is_integer 1 t__law_is_integer args Q E := by
  rintro args Q E ⟨t, rfl, h1, h⟩
  refine ⟨rfl, ?_⟩
  cases t <;> simp [t__law_is_integer, rRet, rRetN, rRetV, rSeq, rNext, rDrop, rAsg, rIfS, rIf, rAnd, rOr, rSlot, rVar, rC, rOp, rUn, rCall, rCallU, fCons, fNil, rCons, rNil, rTup, rLst, rIsI, tTru, tOpT, tNotR, tAndR, tOrR, tChT, rChain, asB_bl, fAdd_int, fSub_int, fLt_int, fLe_int, fGt_int, fGe_int, fEq_int, fNe_int, fEq_bl, fEq_str, fIsN_non, fIx_int, fIxB_p, fIxB_l1, fIxB_l2, fLen_one, fNot, S.lst?, S.seq?, S.size?, S.truth?, S.cls?, T.cls?, S.isi, subT, S.fz, TLY.slotAt, startE, List.set_cons_zero, List.set_cons_succ, TLY.specOf, rApp, gN, isNum] at h1 h ⊢ <;> exact h
/-! ### places, fours -/
def pl (p : Nat × Nat) : T := .tup [.int p.1, .int p.2]
def quad (a b c d : Nat × Nat) : T := .tup [pl a, pl b, pl c, pl d]
inductive Dm (n : Nat) : Nat × Nat → Nat × Nat → Nat × Nat → Nat × Nat → Prop
  | a (i j : Nat) : i + j + 2 ≤ n → Dm n (i + 1, j) (i, j + 1) (i, j) (i + 1, j + 1)
  | b (i j : Nat) : i + j + 2 ≤ n → Dm n (i + 1, j) (i + 1, j + 1) (i + 2, j) (i, j + 1)
  | c (i j : Nat) : i + j + 2 ≤ n → Dm n (i, j + 1) (i + 1, j + 1) (i, j + 2) (i + 1, j)
def DiaOk (n : Nat) (l : List T) : Prop := (∀ t ∈ l, ∃ a b c d, Dm n a b c d ∧ t = quad a b c d) ∧ ∀ a b c d, Dm n a b c d → quad a b c d ∈ l
/-- a rhombus: its kind, its place -/
def Rk (n : Nat) (k i j : Nat) : Prop := (k = 0 ∧ i + j + 2 ≤ n) ∨ (k = 1 ∧ 1 ≤ i ∧ i + j + 1 ≤ n) ∨ (k = 2 ∧ 1 ≤ j ∧ i + j + 1 ≤ n)
def rh (k i j : Nat) : T := .tup [.int k, .int i, .int j]
structure Part (n : Nat) (mk : Nat → Nat → Nat → T) (P : Nat → Nat → Prop) (l : List T) : Prop where
  all : ∀ t ∈ l, ∃ k i j, Rk n k i j ∧ t = mk k i j
  has : ∀ k i j, P i j → Rk n k i j → mk k i j ∈ l
theorem Part.more {n : Nat} {mk : Nat → Nat → Nat → T} {P P' : Nat → Nat → Prop} {l l' : List T} (h : Part n mk P l) (e : ∀ t, t ∈ l' ↔ t ∈ l ∨ ∃ k i j, Rk n k i j ∧ P' i j ∧ t = mk k i j) : Part n mk (fun i j => P i j ∨ P' i j) l' where
  all := fun t ht => by
    rcases (e t).mp ht with h1 | ⟨k, i, j, r, _, e⟩
    · exact h.all t h1
    · exact ⟨k, i, j, r, e⟩
  has := fun k i j p r => (e _).mpr (by
    rcases p with p | p
    · exact .inl (h.has k i j p r)
    · exact .inr ⟨k, i, j, r, p, rfl⟩)
/-- one turn of the inner loop -/
def step1 (n : Nat) (mk : Nat → Nat → Nat → T) (i j : Nat) : List T := (if i + j + 2 ≤ n then [mk 0 i j] else []) ++ (if 1 ≤ i ∧ i + j + 1 ≤ n then [mk 1 i j] else []) ++ (if 1 ≤ j ∧ i + j + 1 ≤ n then [mk 2 i j] else [])
theorem step1_mem {n i j : Nat} {mk : Nat → Nat → Nat → T} {t : T} : t ∈ step1 n mk i j ↔ ∃ k, Rk n k i j ∧ t = mk k i j := by
  unfold step1 Rk
  constructor
  · intro h
    simp only [List.mem_append] at h
    rcases h with (h | h) | h
    · split at h
      · exact ⟨0, .inl ⟨rfl, by assumption⟩, by simpa using h⟩
      · simp at h
    · split at h
      · rename_i c; exact ⟨1, .inr (.inl ⟨rfl, c.1, c.2⟩), by simpa using h⟩
      · simp at h
    · split at h
      · rename_i c; exact ⟨2, .inr (.inr ⟨rfl, c.1, c.2⟩), by simpa using h⟩
      · simp at h
  · rintro ⟨k, h, rfl⟩
    simp only [List.mem_append]
    rcases h with ⟨rfl, h⟩ | ⟨rfl, h1, h2⟩ | ⟨rfl, h1, h2⟩
    · exact .inl (.inl (by rw [if_pos h]; simp))
    · exact .inl (.inr (by rw [if_pos ⟨h1, h2⟩]; simp))
    · exact .inr (by rw [if_pos ⟨h1, h2⟩]; simp)
theorem step1_len {n i j : Nat} {mk : Nat → Nat → Nat → T} : (step1 n mk i j).length ≤ 3 := by
  unfold step1
  simp only [List.length_append]
  split <;> split <;> split <;> simp
/-- rhombi, _law_diamonds: a body that adds step1 to the list in slot 1 -/
theorem rhombi_loops {n : Nat} {mk : Nat → Nat → Nat → T} {tb : RS} {D : EndsR} (hn : n ≤ 100)
    (body : ∀ (i j : Nat) (acc : List T) (K : Sl → Prop) (D : EndsR), acc.length ≤ 100000 → K [some (.p (.int n)), some (.l1 (acc ++ step1 n mk i j)), some (.p (.int j)), some (.p (.int i))] → tb { D with nx := K, ct := K } [some (.p (.int n)), some (.l1 acc), some (.p (.int j)), some (.p (.int i))])
    (hd : ∀ acc x y, Part n mk (fun i j => j < n + 1) acc → acc.length ≤ 100000 → D.nx [some (.p (.int n)), some (.l1 acc), x, y]) :
    rFor (iR1 (rOp fAdd (rSlot 0) (rC (.int 1)))) (gN 2) (rFor (iR1 (rOp fSub (rOp fAdd (rSlot 0) (rC (.int 1))) (rSlot 2))) (gN 3) tb) D [some (.p (.int n)), some (.l1 []), none, none] := by
  have e1 : ((n : Int) + 1).toNat = n + 1 := by omega
  simp only [rFor, iR1, rRet, rRetN, rRetV, rSeq, rNext, rDrop, rAsg, rIfS, rIf, rAnd, rOr, rSlot, rVar, rC, rOp, rUn, rCall, rCallU, fCons, fNil, rCons, rNil, rTup, rLst, rIsI, tTru, tOpT, tNotR, tAndR, tOrR, tChT, rChain, asB_bl, fAdd_int, fSub_int, fLt_int, fLe_int, fGt_int, fGe_int, fEq_int, fNe_int, fEq_bl, fEq_str, fIsN_non, fIx_int, fIxB_p, fIxB_l1, fIxB_l2, fLen_one, fNot, S.lst?, S.seq?, S.size?, S.truth?, S.cls?, T.cls?, S.isi, subT, S.fz, TLY.slotAt, startE, List.set_cons_zero, List.set_cons_succ, TLY.specOf, rApp, gN]
  refine ⟨by omega, ?_⟩
  rw [e1]
  refine forR (fun J e => ∃ acc x y, e = [some (.p (.int n)), some (.l1 acc), x, y] ∧ Part n mk (fun i j => j < J) acc ∧ acc.length ≤ 303 * J) ⟨[], none, none, rfl, ⟨by simp, fun k i j h => absurd h (Nat.not_lt_zero _)⟩, by simp⟩ ?_ ?_
  · rintro J e K hJ ⟨acc, x, y, rfl, hp, hl⟩ hK
    simp only [gN, rRet, rRetN, rRetV, rSeq, rNext, rDrop, rAsg, rIfS, rIf, rAnd, rOr, rSlot, rVar, rC, rOp, rUn, rCall, rCallU, fCons, fNil, rCons, rNil, rTup, rLst, rIsI, tTru, tOpT, tNotR, tAndR, tOrR, tChT, rChain, asB_bl, fAdd_int, fSub_int, fLt_int, fLe_int, fGt_int, fGe_int, fEq_int, fNe_int, fEq_bl, fEq_str, fIsN_non, fIx_int, fIxB_p, fIxB_l1, fIxB_l2, fLen_one, fNot, S.lst?, S.seq?, S.size?, S.truth?, S.cls?, T.cls?, S.isi, subT, S.fz, TLY.slotAt, startE, List.set_cons_zero, List.set_cons_succ, TLY.specOf, rApp, gN]
    have e2 : ((n : Int) + 1 - (J : Int)).toNat = n + 1 - J := by omega
    refine ⟨by omega, ?_⟩
    rw [e2]
    refine forR (fun I e => ∃ acc y, e = [some (.p (.int n)), some (.l1 acc), some (.p (.int J)), y] ∧ Part n mk (fun i j => j < J ∨ (j = J ∧ i < I)) acc ∧ acc.length ≤ 303 * J + 3 * I) ⟨acc, y, rfl, ⟨hp.all, fun k i j h => hp.has k i j (by omega)⟩, by omega⟩ ?_ ?_
    · rintro I e K2 hI ⟨acc, y, rfl, hp, hl⟩ hK2
      simp only [gN, rRet, rRetN, rRetV, rSeq, rNext, rDrop, rAsg, rIfS, rIf, rAnd, rOr, rSlot, rVar, rC, rOp, rUn, rCall, rCallU, fCons, fNil, rCons, rNil, rTup, rLst, rIsI, tTru, tOpT, tNotR, tAndR, tOrR, tChT, rChain, asB_bl, fAdd_int, fSub_int, fLt_int, fLe_int, fGt_int, fGe_int, fEq_int, fNe_int, fEq_bl, fEq_str, fIsN_non, fIx_int, fIxB_p, fIxB_l1, fIxB_l2, fLen_one, fNot, S.lst?, S.seq?, S.size?, S.truth?, S.cls?, T.cls?, S.isi, subT, S.fz, TLY.slotAt, startE, List.set_cons_zero, List.set_cons_succ, TLY.specOf, rApp, gN]
      refine body I J acc K2 { D with bk := K } (by omega) (hK2 _ ⟨_, _, rfl, ?_, ?_⟩)
      · have := hp.more (P' := fun i j => i = I ∧ j = J) (l' := acc ++ step1 n mk I J) (fun t => by
          rw [List.mem_append, step1_mem]
          constructor
          · rintro (h | ⟨k, r, e⟩)
            · exact .inl h
            · exact .inr ⟨k, I, J, r, ⟨rfl, rfl⟩, e⟩
          · rintro (h | ⟨k, i, j, r, ⟨rfl, rfl⟩, e⟩)
            · exact .inl h
            · exact .inr ⟨k, r, e⟩)
        exact ⟨this.all, fun k i j h => this.has k i j (by omega)⟩
      · rw [List.length_append]
        have := step1_len (n := n) (i := I) (j := J) (mk := mk)
        omega
    · rintro e ⟨acc, y, rfl, hp, hl⟩
      refine hK _ ⟨acc, _, _, rfl, ⟨hp.all, fun k i j h r => hp.has k i j ?_ r⟩, by omega⟩
      unfold Rk at r
      omega
  · rintro e ⟨acc, x, y, rfl, hp, hl⟩
    exact hd acc x y hp (by omega)
theorem dec0 {i j n : Nat} : decide ((i : Int) + (j : Int) + 2 ≤ (n : Int)) = decide (i + j + 2 ≤ n) := decide_eq_decide.mpr (by omega)
theorem dec1 {i j n : Nat} : decide ((i : Int) + (j : Int) + 1 ≤ (n : Int)) = decide (i + j + 1 ≤ n) := decide_eq_decide.mpr (by omega)
theorem dec2 {i : Nat} : decide (1 ≤ (i : Int)) = decide (1 ≤ i) := decide_eq_decide.mpr (by omega)
def fRhombi : FSpec := fun args Q _ => ∃ n : Nat, args = [.int n] ∧ n ≤ 100 ∧ ∀ l, Part n rh (fun _ j => j < n + 1) l → l.length ≤ 100000 → Q (.l1 l)
theorem rhombi_law : ∀ args Q E, fRhombi args Q E → specOf N_rhombi 1 t_rhombi args Q E := by
  rintro args Q E ⟨n, rfl, hn, h⟩
  refine ⟨rfl, ?_⟩
  unfold t_rhombi
  simp only [rRet, rRetN, rRetV, rSeq, rNext, rDrop, rAsg, rIfS, rIf, rAnd, rOr, rSlot, rVar, rC, rOp, rUn, rCall, rCallU, fCons, fNil, rCons, rNil, rTup, rLst, rIsI, tTru, tOpT, tNotR, tAndR, tOrR, tChT, rChain, asB_bl, fAdd_int, fSub_int, fLt_int, fLe_int, fGt_int, fGe_int, fEq_int, fNe_int, fEq_bl, fEq_str, fIsN_non, fIx_int, fIxB_p, fIxB_l1, fIxB_l2, fLen_one, fNot, S.lst?, S.seq?, S.size?, S.truth?, S.cls?, T.cls?, S.isi, subT, S.fz, TLY.slotAt, startE, List.set_cons_zero, List.set_cons_succ, TLY.specOf, rApp, gN]
  refine ⟨by simp, rhombi_loops (mk := rh) hn (fun i j acc K D hl hK => ?_) fun acc x y hp hl => ?_⟩
  · have hs : (100010 : Nat) < sizeLine := by rw [sizeLine_eq]; decide
    simp only [rRet, rRetN, rRetV, rSeq, rNext, rDrop, rAsg, rIfS, rIf, rAnd, rOr, rSlot, rVar, rC, rOp, rUn, rCall, rCallU, fCons, fNil, rCons, rNil, rTup, rLst, rIsI, tTru, tOpT, tNotR, tAndR, tOrR, tChT, rChain, asB_bl, fAdd_int, fSub_int, fLt_int, fLe_int, fGt_int, fGe_int, fEq_int, fNe_int, fEq_bl, fEq_str, fIsN_non, fIx_int, fIxB_p, fIxB_l1, fIxB_l2, fLen_one, fNot, S.lst?, S.seq?, S.size?, S.truth?, S.cls?, T.cls?, S.isi, subT, S.fz, TLY.slotAt, startE, List.set_cons_zero, List.set_cons_succ, TLY.specOf, rApp, gN]
    simp only [dec0, dec1, dec2]
    have l3 : ∀ (a b c : T), [a, b, c].length ≤ sizeLine := fun a b c => by simp only [List.length_cons, List.length_nil]; omega
    have la : ∀ m : List T, m.length ≤ 5 → (acc ++ m).length < sizeLine := fun m hm => by rw [List.length_append]; omega
    have la0 : acc.length < sizeLine := by omega
    unfold step1 rh at hK
    by_cases c0 : i + j + 2 ≤ n <;> by_cases c1 : 1 ≤ i <;> by_cases c2 : i + j + 1 ≤ n <;> by_cases c3 : 1 ≤ j <;>
      simp only [c0, c1, c2, c3, decide_true, decide_false, if_true, if_false, and_true, and_false, true_and, false_and, Bool.false_eq_true, List.append_nil, List.nil_append, List.append_assoc, List.cons_append] at hK ⊢ <;>
      first
        | exact hK
        | (refine ⟨l3 _ _ _, la0, ?_⟩; first | exact hK | (refine ⟨l3 _ _ _, la _ (by simp), ?_⟩; first | exact hK | exact ⟨l3 _ _ _, la _ (by simp), hK⟩))
  · simp only [rRet, rRetN, rRetV, rSeq, rNext, rDrop, rAsg, rIfS, rIf, rAnd, rOr, rSlot, rVar, rC, rOp, rUn, rCall, rCallU, fCons, fNil, rCons, rNil, rTup, rLst, rIsI, tTru, tOpT, tNotR, tAndR, tOrR, tChT, rChain, asB_bl, fAdd_int, fSub_int, fLt_int, fLe_int, fGt_int, fGe_int, fEq_int, fNe_int, fEq_bl, fEq_str, fIsN_non, fIx_int, fIxB_p, fIxB_l1, fIxB_l2, fLen_one, fNot, S.lst?, S.seq?, S.size?, S.truth?, S.cls?, T.cls?, S.isi, subT, S.fz, TLY.slotAt, startE, List.set_cons_zero, List.set_cons_succ, TLY.specOf, rApp, gN]
    exact h acc hp hl
end K36

namespace K36
open PySem PySem.Spec PyProof.Rows L2 TLY
theorem sl10 : (10 : Nat) ≤ sizeLine := by rw [sizeLine_eq]; decide
def sq (k i j : Nat) : T := match k with
  | 0 => quad (i + 1, j) (i, j + 1) (i, j) (i + 1, j + 1)
  | 1 => quad (i, j) (i, j + 1) (i + 1, j) (i - 1, j + 1)
  | _ => quad (i, j) (i + 1, j) (i, j + 1) (i + 1, j - 1)
def fSides : FSpec := fun args Q _ => ∃ (n k i j : Nat), args = [rh k i j] ∧ Rk n k i j ∧ Q (.p (sq k i j))
theorem sides_law : ∀ args Q E, fSides args Q E → specOf N_sides_of 1 t_sides_of args Q E := by
  rintro args Q E ⟨n, k, i, j, rfl, hr, h⟩
  refine ⟨rfl, ?_⟩
  have l2 : ∀ (a b : T), [a, b].length ≤ sizeLine := fun a b => Nat.le_trans (by simp) sl10
  have l4 : ∀ (a b c d : T), [a, b, c, d].length ≤ sizeLine := fun a b c d => Nat.le_trans (by simp) sl10
  show t_sides_of _ [some (.p (rh k i j)), none, none, none]
  unfold t_sides_of rh
  simp only [rRet, rRetN, rRetV, rSeq, rNext, rDrop, rAsg, rIfS, rIf, rAnd, rOr, rSlot, rVar, rC, rOp, rUn, rCall, rCallU, fCons, fNil, rCons, rNil, rTup, rLst, rIsI, tTru, tOpT, tNotR, tAndR, tOrR, tChT, rChain, asB_bl, fAdd_int, fSub_int, fLt_int, fLe_int, fGt_int, fGe_int, fEq_int, fNe_int, fEq_bl, fEq_str, fIsN_non, fIx_int, fIxB_p, fIxB_l1, fIxB_l2, fLen_one, fNot, S.lst?, S.seq?, S.size?, S.truth?, S.cls?, T.cls?, S.isi, subT, S.fz, TLY.slotAt, startE, List.set_cons_zero, List.set_cons_succ, TLY.specOf, rApp, gN, rAsgG, gTs, T.items?, setAll]
  refine ⟨_, rfl, rfl, ?_⟩
  simp only [rRet, rRetN, rRetV, rSeq, rNext, rDrop, rAsg, rIfS, rIf, rAnd, rOr, rSlot, rVar, rC, rOp, rUn, rCall, rCallU, fCons, fNil, rCons, rNil, rTup, rLst, rIsI, tTru, tOpT, tNotR, tAndR, tOrR, tChT, rChain, asB_bl, fAdd_int, fSub_int, fLt_int, fLe_int, fGt_int, fGe_int, fEq_int, fNe_int, fEq_bl, fEq_str, fIsN_non, fIx_int, fIxB_p, fIxB_l1, fIxB_l2, fLen_one, fNot, S.lst?, S.seq?, S.size?, S.truth?, S.cls?, T.cls?, S.isi, subT, S.fz, TLY.slotAt, startE, List.set_cons_zero, List.set_cons_succ, TLY.specOf, rApp, gN, rAsgG, gTs, T.items?, setAll]
  rcases hr with ⟨rfl, hr⟩ | ⟨rfl, h1, h2⟩ | ⟨rfl, h1, h2⟩
  · rw [if_pos (show decide (((0 : Nat) : Int) = 0) = true from by decide)]
    refine ⟨l2 _ _, l2 _ _, l2 _ _, l2 _ _, l4 _ _ _ _, ?_⟩
    simpa [sq, quad, pl] using h
  · rw [if_neg (show ¬ decide (((1 : Nat) : Int) = 0) = true from by decide), if_pos (show decide (((1 : Nat) : Int) = 1) = true from by decide)]
    refine ⟨l2 _ _, l2 _ _, l2 _ _, l2 _ _, l4 _ _ _ _, ?_⟩
    have e : ((i - 1 : Nat) : Int) = (i : Int) - 1 := by omega
    simpa [sq, quad, pl, e] using h
  · rw [if_neg (show ¬ decide (((2 : Nat) : Int) = 0) = true from by decide), if_neg (show ¬ decide (((2 : Nat) : Int) = 1) = true from by decide)]
    refine ⟨l2 _ _, l2 _ _, l2 _ _, l2 _ _, l4 _ _ _ _, ?_⟩
    have e : ((j - 1 : Nat) : Int) = (j : Int) - 1 := by omega
    simpa [sq, quad, pl, e] using h
theorem sq_dm {n k i j : Nat} (h : Rk n k i j) : ∃ a b c d, Dm n a b c d ∧ sq k i j = quad a b c d := by
  rcases h with ⟨rfl, h⟩ | ⟨rfl, h1, h2⟩ | ⟨rfl, h1, h2⟩
  · exact ⟨_, _, _, _, .a i j h, rfl⟩
  · obtain ⟨i, rfl⟩ : ∃ i', i = i' + 1 := ⟨i - 1, by omega⟩
    exact ⟨_, _, _, _, .b i j (by omega), rfl⟩
  · obtain ⟨j, rfl⟩ : ∃ j', j = j' + 1 := ⟨j - 1, by omega⟩
    exact ⟨_, _, _, _, .c i j (by omega), rfl⟩
theorem dm_sq {n : Nat} {a b c d : Nat × Nat} (h : Dm n a b c d) : ∃ k i j, Rk n k i j ∧ j < n + 1 ∧ sq k i j = quad a b c d := by
  cases h with
  | a i j h => exact ⟨0, i, j, .inl ⟨rfl, h⟩, by omega, rfl⟩
  | b i j h => exact ⟨1, i + 1, j, .inr (.inl ⟨rfl, by omega, by omega⟩), by omega, rfl⟩
  | c i j h => exact ⟨2, i, j + 1, .inr (.inr ⟨rfl, by omega, by omega⟩), by omega, rfl⟩
theorem Part.dia {n : Nat} {l : List T} (h : Part n sq (fun _ j => j < n + 1) l) : DiaOk n l :=
  ⟨fun t ht => by
    obtain ⟨k, i, j, r, rfl⟩ := h.all t ht
    exact sq_dm r, fun a b c d hd => by
    obtain ⟨k, i, j, r, hj, e⟩ := dm_sq hd
    rw [← e]
    exact h.has k i j hj r⟩
def fDia : FSpec := fun args Q _ => ∃ n : Nat, args = [.int n] ∧ n ≤ 100 ∧ ∀ l, DiaOk n l → l.length ≤ 100000 → Q (.l1 l)
theorem dia_law : ∀ args Q E, fDia args Q E → specOf N_diamonds 1 (t_diamonds fRhombi fSides) args Q E := by
  rintro args Q E ⟨n, rfl, hn, h⟩
  refine ⟨rfl, ?_⟩
  show t_diamonds _ _ _ [some (.p (.int n)), none]
  unfold t_diamonds
  simp only [rRet, rRetN, rRetV, rSeq, rNext, rDrop, rAsg, rIfS, rIf, rAnd, rOr, rSlot, rVar, rC, rOp, rUn, rCall, rCallU, fCons, fNil, rCons, rNil, rTup, rLst, rIsI, tTru, tOpT, tNotR, tAndR, tOrR, tChT, rChain, asB_bl, fAdd_int, fSub_int, fLt_int, fLe_int, fGt_int, fGe_int, fEq_int, fNe_int, fEq_bl, fEq_str, fIsN_non, fIx_int, fIxB_p, fIxB_l1, fIxB_l2, fLen_one, fNot, S.lst?, S.seq?, S.size?, S.truth?, S.cls?, T.cls?, S.isi, subT, S.fz, TLY.slotAt, startE, List.set_cons_zero, List.set_cons_succ, TLY.specOf, rApp, gN, rLc, iSeq]
  refine ⟨n, rfl, hn, fun l hp hl => ⟨l, rfl, ?_⟩⟩
  refine lcW_any (P := fun x r => ∃ k i j, Rk n k i j ∧ x = rh k i j ∧ r = sq k i j) (fun x hx Q' hQ => ?_) (by simp only [List.length_nil]; rw [sizeLine_eq]; omega) fun rs hrs => ?_
  · obtain ⟨k, i, j, r, rfl⟩ := hp.all x hx
    simp only [rRet, rRetN, rRetV, rSeq, rNext, rDrop, rAsg, rIfS, rIf, rAnd, rOr, rSlot, rVar, rC, rOp, rUn, rCall, rCallU, fCons, fNil, rCons, rNil, rTup, rLst, rIsI, tTru, tOpT, tNotR, tAndR, tOrR, tChT, rChain, asB_bl, fAdd_int, fSub_int, fLt_int, fLe_int, fGt_int, fGe_int, fEq_int, fNe_int, fEq_bl, fEq_str, fIsN_non, fIx_int, fIxB_p, fIxB_l1, fIxB_l2, fLen_one, fNot, S.lst?, S.seq?, S.size?, S.truth?, S.cls?, T.cls?, S.isi, subT, S.fz, TLY.slotAt, startE, List.set_cons_zero, List.set_cons_succ, TLY.specOf, rApp, gN, wipeE]
    exact ⟨n, k, i, j, rfl, r, hQ _ ⟨k, i, j, r, rfl, rfl⟩⟩
  · refine h _ ⟨fun t ht => ?_, fun a b c d hd => ?_⟩ (by simp only [List.nil_append]; rw [← hrs.length]; exact hl)
    · obtain ⟨m, hm, rfl⟩ := List.getElem_of_mem ht
      obtain ⟨x, _, k, i, j, r, _, e⟩ := hrs.getR (i := m) (List.getElem?_eq_getElem (by simpa using hm))
      simp only [List.nil_append]
      rw [e]
      exact sq_dm r
    · obtain ⟨k, i, j, r, hj, e⟩ := dm_sq hd
      obtain ⟨m, hm, em⟩ := List.getElem_of_mem (hp.has k i j hj r)
      obtain ⟨y, hy, k', i', j', _, e1, e2⟩ := hrs.get (i := m) (List.getElem?_eq_getElem hm)
      rw [em] at e1
      have e3 : k = k' ∧ i = i' ∧ j = j' := by
        unfold rh at e1
        simp at e1
        omega
      obtain ⟨rfl, rfl, rfl⟩ := e3
      rw [← e, ← e2]
      simp only [List.nil_append]
      exact List.mem_of_getElem? hy
end K36

namespace K36
open PySem PySem.Spec PyProof.Rows L2 TLY
theorem pred1 {i : Nat} : 1 ≤ i → ((i - 1 : Nat) : Int) = (i : Int) - 1 := fun h => by omega
theorem dia_law2 : ∀ args Q E, fDia args Q E → specOf N__law_diamonds 1 t__law_diamonds args Q E := by
  rintro args Q E ⟨n, rfl, hn, h⟩
  refine ⟨rfl, ?_⟩
  show t__law_diamonds _ [some (.p (.int n)), none, none, none]
  unfold t__law_diamonds
  simp only [rRet, rRetN, rRetV, rSeq, rNext, rDrop, rAsg, rIfS, rIf, rAnd, rOr, rSlot, rVar, rC, rOp, rUn, rCall, rCallU, fCons, fNil, rCons, rNil, rTup, rLst, rIsI, tTru, tOpT, tNotR, tAndR, tOrR, tChT, rChain, asB_bl, fAdd_int, fSub_int, fLt_int, fLe_int, fGt_int, fGe_int, fEq_int, fNe_int, fEq_bl, fEq_str, fIsN_non, fIx_int, fIxB_p, fIxB_l1, fIxB_l2, fLen_one, fNot, S.lst?, S.seq?, S.size?, S.truth?, S.cls?, T.cls?, S.isi, subT, S.fz, TLY.slotAt, startE, List.set_cons_zero, List.set_cons_succ, TLY.specOf, rApp, gN]
  refine ⟨by simp, rhombi_loops (mk := sq) hn (fun i j acc K D hl hK => ?_) fun acc x y hp hl => ?_⟩
  · have hs : (100010 : Nat) < sizeLine := by rw [sizeLine_eq]; decide
    have la : ∀ m : List T, m.length ≤ 5 → (acc ++ m).length < sizeLine := fun m hm => by rw [List.length_append]; omega
    have and_ev : ∀ {t u : RT} {e : Sl} {a b : Bool}, EvB t e a → EvB u e b → EvB (tAndR t u) e (a && b) := fun {t u e a b} ht hu Q E h => ht _ _ (by
      cases a with
      | true => simp only [if_true]; exact hu _ _ (by simpa using h)
      | false => simp only [Bool.false_eq_true, if_false]; simpa using h)
    refine app_if_seq (b := decide (i + j + 2 ≤ n)) (r := .p (sq 0 i j)) (l := acc) (fun Q E h => by rw [← dec0] at h; exact h) (fun _ => ev_tup4 (ev_pair (X := ((i + 1 : Nat) : Int)) (Y := (j : Int)) (fun Q E h => h) (fun Q E h => h)) (ev_pair (X := (i : Int)) (Y := ((j + 1 : Nat) : Int)) (fun Q E h => h) (fun Q E h => h)) (ev_pair (X := (i : Int)) (Y := (j : Int)) (fun Q E h => h) (fun Q E h => h)) (ev_pair (X := ((i + 1 : Nat) : Int)) (Y := ((j + 1 : Nat) : Int)) (fun Q E h => h) (fun Q E h => h))) rfl (by omega) ?_
    refine app_if_seq (b := decide (1 ≤ i) && decide (i + j + 1 ≤ n)) (r := .p (sq 1 i j)) (l := acc ++ (if decide (i + j + 2 ≤ n) = true then [(S.p (sq 0 i j)).fz] else [])) (and_ev (fun Q E h => by rw [← dec2] at h; exact h) (fun Q E h => by rw [← dec1] at h; exact h)) (fun hb => ev_tup4 (ev_pair (X := (i : Int)) (Y := (j : Int)) (fun Q E h => h) (fun Q E h => h)) (ev_pair (X := (i : Int)) (Y := ((j + 1 : Nat) : Int)) (fun Q E h => h) (fun Q E h => h)) (ev_pair (X := ((i + 1 : Nat) : Int)) (Y := (j : Int)) (fun Q E h => h) (fun Q E h => h)) (ev_pair (X := ((i - 1 : Nat) : Int)) (Y := ((j + 1 : Nat) : Int)) (fun Q E h => by rw [pred1 (by simp at hb; omega)] at h; exact h) (fun Q E h => h))) rfl (by split; exact la _ (by simp); exact la _ (by simp)) ?_
    refine app_if (b := decide (1 ≤ j) && decide (i + j + 1 ≤ n)) (r := .p (sq 2 i j)) (l := (acc ++ (if decide (i + j + 2 ≤ n) = true then [(S.p (sq 0 i j)).fz] else [])) ++ (if (decide (1 ≤ i) && decide (i + j + 1 ≤ n)) = true then [(S.p (sq 1 i j)).fz] else [])) (and_ev (fun Q E h => by rw [← dec2] at h; exact h) (fun Q E h => by rw [← dec1] at h; exact h)) (fun hb => ev_tup4 (ev_pair (X := (i : Int)) (Y := (j : Int)) (fun Q E h => h) (fun Q E h => h)) (ev_pair (X := ((i + 1 : Nat) : Int)) (Y := (j : Int)) (fun Q E h => h) (fun Q E h => h)) (ev_pair (X := (i : Int)) (Y := ((j + 1 : Nat) : Int)) (fun Q E h => h) (fun Q E h => h)) (ev_pair (X := ((i + 1 : Nat) : Int)) (Y := ((j - 1 : Nat) : Int)) (fun Q E h => h) (fun Q E h => by rw [pred1 (by simp at hb; omega)] at h; exact h))) rfl (by rw [List.append_assoc]; split <;> split <;> exact la _ (by simp)) ?_
    have e : (acc ++ (if decide (i + j + 2 ≤ n) = true then [(S.p (sq 0 i j)).fz] else []) ++ (if (decide (1 ≤ i) && decide (i + j + 1 ≤ n)) = true then [(S.p (sq 1 i j)).fz] else [])) ++ (if (decide (1 ≤ j) && decide (i + j + 1 ≤ n)) = true then [(S.p (sq 2 i j)).fz] else []) = acc ++ step1 n sq i j := by
      unfold step1
      simp only [Bool.and_eq_true, decide_eq_true_eq, S.fz, List.append_assoc]
    rw [e]
    exact hK
  · simp only [rRet, rRetN, rRetV, rSeq, rNext, rDrop, rAsg, rIfS, rIf, rAnd, rOr, rSlot, rVar, rC, rOp, rUn, rCall, rCallU, fCons, fNil, rCons, rNil, rTup, rLst, rIsI, tTru, tOpT, tNotR, tAndR, tOrR, tChT, rChain, asB_bl, fAdd_int, fSub_int, fLt_int, fLe_int, fGt_int, fGe_int, fEq_int, fNe_int, fEq_bl, fEq_str, fIsN_non, fIx_int, fIxB_p, fIxB_l1, fIxB_l2, fLen_one, fNot, S.lst?, S.seq?, S.size?, S.truth?, S.cls?, T.cls?, S.isi, subT, S.fz, TLY.slotAt, startE, List.set_cons_zero, List.set_cons_succ, TLY.specOf, rApp, gN]
    exact h acc hp.dia hl
end K36

namespace K36
open PySem PySem.Spec PyProof.Rows L2 TLY
/-! ### hives -/
def ent (t : T) (p : Nat × Nat) : Int := match t.items? with
  | none => 0
  | some l => match l[p.2]? with
    | none => 0
    | some r => match r.items? with
      | none => 0
      | some xs => match xs[p.1]? with
        | some (.int z) => z
        | _ => 0
def RowOk (L : Nat) (l : List T) (j : Nat) : Prop := ∃ r xs, l[j]? = some r ∧ r.items? = some xs ∧ xs.length = L - j ∧ ∀ x ∈ xs, isNum x = true
def Shape (n : Nat) (t : T) : Prop := ∃ l, t.items? = some l ∧ l.length = n + 1 ∧ ∀ j, j < n + 1 → RowOk (n + 1) l j
def Ineq (n : Nat) (f : Nat × Nat → Int) : Prop := ∀ a b c d, Dm n a b c d → f c + f d ≤ f a + f b
def IsHive (t : T) : Prop := ∃ n, 1 ≤ n ∧ n ≤ 6 ∧ Shape n t ∧ ent t (0, 0) = 0 ∧ Ineq n (ent t)
structure Clean (t : T) : Prop where
  c0 : t.cls?.isSome = true
  c1 : ∀ l, t.items? = some l → ∀ r ∈ l, r.cls?.isSome = true
  c2 : ∀ l, t.items? = some l → ∀ r ∈ l, ∀ xs, r.items? = some xs → ∀ x ∈ xs, x.cls?.isSome = true
def At (t : T) (p : Nat × Nat) (z : Int) : Prop := ∃ l r xs, t.items? = some l ∧ l[p.2]? = some r ∧ r.items? = some xs ∧ xs[p.1]? = some (.int z)
theorem At.ent {t : T} {p : Nat × Nat} {z : Int} (h : At t p z) : ent t p = z := by
  obtain ⟨l, r, xs, h1, h2, h3, h4⟩ := h
  unfold K36.ent
  rw [h1]
  simp only [h2, h3, h4]
theorem Shape.at {n : Nat} {t : T} (h : Shape n t) {p : Nat × Nat} (hp : p.1 + p.2 ≤ n) : At t p (K36.ent t p) := by
  obtain ⟨l, h1, h2, h3⟩ := h
  obtain ⟨r, xs, e1, e2, e3, e4⟩ := h3 p.2 (by omega)
  have hx : p.1 < xs.length := by omega
  have hn := e4 xs[p.1] (List.getElem_mem hx)
  obtain ⟨z, hz⟩ : ∃ z, xs[p.1] = .int z := by
    generalize xs[p.1] = y at hn
    cases y <;> simp [isNum] at hn
    exact ⟨_, rfl⟩
  have a : At t p z := ⟨l, r, xs, h1, e1, e2, by rw [List.getElem?_eq_getElem hx, hz]⟩
  rw [a.ent]
  exact a
theorem Dm.within {n : Nat} {a b c d : Nat × Nat} (h : Dm n a b c d) : a.1 + a.2 ≤ n ∧ b.1 + b.2 ≤ n ∧ c.1 + c.2 ≤ n ∧ d.1 + d.2 ≤ n := by
  cases h <;> simp <;> omega
def fAt : FSpec := fun args Q _ => ∃ t p z, args = [t, pl p] ∧ At t p z ∧ Q (.p (.int z))
theorem at_law : ∀ args Q E, fAt args Q E → specOf N_at_place 2 t_at_place args Q E := by
  rintro args Q E ⟨t, p, z, rfl, ⟨l, r, xs, h1, h2, h3, h4⟩, h⟩
  refine ⟨rfl, ?_⟩
  show t_at_place _ [some (.p t), some (.p (pl p))]
  refine ev_op (x := .p r) (y := .p (.int p.1)) (z := .p (.int z)) (ev_op (x := .p t) (y := .p (.int p.2)) (ev_slot rfl) (ev_op (x := .p (pl p)) (y := .p (.int 1)) (ev_slot rfl) ev_c (fun Q h => ⟨_, rfl, h⟩)) (fun Q h => ⟨r, ?_, h⟩)) (ev_op (x := .p (pl p)) (y := .p (.int 0)) (ev_slot rfl) ev_c (fun Q h => ⟨_, rfl, h⟩)) (fun Q h => ⟨_, ?_, h⟩) _ _ h
  · rw [at_items h1]; exact atI_n h2
  · rw [at_items h3]; exact atI_n h4
def fHive : FSpec := fun args Q _ => ∃ t, args = [t] ∧ Clean t ∧ ∀ b, (b = true ↔ IsHive t) → Q (.p (.bl b))
theorem Shape.len {n : Nat} {t : T} {l : List T} (h : Shape n t) (e : t.items? = some l) : l.length = n + 1 ∧ ∀ j, j < n + 1 → RowOk (n + 1) l j := by
  obtain ⟨l', h1, h2, h3⟩ := h
  rw [e] at h1
  cases h1
  exact ⟨h2, h3⟩
theorem DiaOk.get {n k : Nat} {l : List T} {x : T} (h : DiaOk n l) (e : l[k]? = some x) : ∃ a b c d, Dm n a b c d ∧ x = quad a b c d := h.1 x (List.mem_of_getElem? e)
theorem ev_at {t : T} {e : Sl} {i j : Nat} {p : Nat × Nat} {z : Int} (hi : TLY.slotAt e i = some (.p t)) (hj : TLY.slotAt e j = some (.p (pl p))) (h : At t p z) : EvI (rCallU fAt (fCons (rVar i) (fCons (rVar j) fNil))) e z := fun Q E q => by
  unfold rCallU fCons
  refine ev_var hi _ _ ?_
  refine ev_var hj _ _ ?_
  exact ⟨t, p, z, rfl, h, q⟩
theorem hive_law : ∀ args Q E, fHive args Q E → specOf N_is_hive 1 (t_is_hive fAt fDia fNum) args Q E := by
  rintro args Q E ⟨t, rfl, hc, h⟩
  refine ⟨rfl, ?_⟩
  show t_is_hive _ _ _ _ [some (.p t), none, none, none, none, none, none, none]
  unfold t_is_hive
  cases hl : t.items? with
  | none =>
    refine if_seq (b := true || false) (ev_or (ev_notR (ev_tru (by have := ev_isSeq (e := [some (.p t), none, none, none, none, none, none, none]) (i := 0) (t := t) rfl hc.c0; rw [hl] at this; exact this))) (fun z => by cases z)) (fun _ => ?_) (fun z => by cases z)
    refine h false ⟨fun z => Bool.noConfusion z, fun ⟨n, _, _, ⟨l, h1, _⟩, _⟩ => ?_⟩
    rw [hl] at h1; cases h1
  | some l =>
    refine if_seq (b := false || !(decide ((2 : Int) ≤ l.length) && decide ((l.length : Int) ≤ 7))) (ev_or (ev_notR (ev_tru (a := true) (by have := ev_isSeq (e := [some (.p t), none, none, none, none, none, none, none]) (i := 0) (t := t) rfl hc.c0; rw [hl] at this; exact this)))
      (fun _ => ev_notR (ev_chain (x := .p (.int 2)) (y := .p (.int l.length)) (z := .p (.int 7)) ev_c (ev_len (e := [some (.p t), none, none, none, none, none, none, none]) rfl hl) (fun Q h => h) (fun Q E h => h) (fun Q h => h)))) (fun z => ?_) (fun z => ?_)
    · refine h false ⟨fun z => Bool.noConfusion z, fun ⟨n, n1, n6, sh, _⟩ => ?_⟩
      have := (sh.len hl).1
      simp at z
      omega
    · have hn : 2 ≤ l.length ∧ l.length ≤ 7 := by
        simp at z
        omega
      obtain ⟨n, hnl⟩ : ∃ n, l.length = n + 1 := ⟨l.length - 1, by omega⟩
      refine for_seq (l := enumT l 0) (fun Q E q => ev_var rfl _ _ ⟨l, hl, q⟩) (fun i e => ∃ x y, e = [some (.p t), x, y, none, none, none, none, none] ∧ ∀ j < i, RowOk l.length l j) ⟨none, none, rfl, by omega⟩ ?_ ?_
      · rintro i x e K hx ⟨x1, x2, rfl, ok⟩ hK
        obtain ⟨r, hr, rfl⟩ := enumT_at hx
        have hi : i < l.length := by
          rcases Nat.lt_or_ge i l.length with z | z
          · exact z
          · rw [List.getElem?_eq_none z] at hr; cases hr
        have hrm := List.mem_of_getElem? hr
        refine ⟨_, rfl, rfl, ?_⟩
        have bad : ¬ RowOk l.length l i → Q (.p (.bl false)) := fun nb => h false ⟨fun z => Bool.noConfusion z, fun ⟨m, _, _, sh, _⟩ => by
          obtain ⟨q1, q2⟩ := sh.len hl
          have := q2 i (by omega)
          rw [← q1] at this
          exact absurd this nb⟩
        show rSeq _ _ _ [some (.p t), some (.p (.int ((0 + i : Nat) : Int))), some (.p r), none, none, none, none, none]
        cases hxs : r.items? with
        | none =>
          refine if_seq (b := true || false) (ev_or (ev_notR (ev_tru (by have := ev_isSeq (e := [some (.p t), some (.p (.int ((0 + i : Nat) : Int))), some (.p r), none, none, none, none, none]) (i := 2) (t := r) rfl (hc.c1 l hl r hrm); rw [hxs] at this; exact this))) (fun z => by cases z)) (fun _ => ?_) (fun z => by cases z)
          refine bad fun ⟨r', xs, e1, e2, _⟩ => ?_
          rw [hr] at e1; cases e1; rw [hxs] at e2; cases e2
        | some xs =>
          refine if_seq (b := false || !decide ((xs.length : Int) = (l.length : Int) - ((0 + i : Nat) : Int))) (ev_or (ev_notR (ev_tru (a := true) (by have := ev_isSeq (e := [some (.p t), some (.p (.int ((0 + i : Nat) : Int))), some (.p r), none, none, none, none, none]) (i := 2) (t := r) rfl (hc.c1 l hl r hrm); rw [hxs] at this; exact this)))
            (fun _ => ev_cmp (x := .p (.int xs.length)) (y := .p (.int ((l.length : Int) - ((0 + i : Nat) : Int)))) (ev_len (e := [some (.p t), some (.p (.int ((0 + i : Nat) : Int))), some (.p r), none, none, none, none, none]) rfl hxs) (ev_op (x := .p (.int l.length)) (ev_len (e := [some (.p t), some (.p (.int ((0 + i : Nat) : Int))), some (.p r), none, none, none, none, none]) rfl hl) (ev_slot rfl) (fun Q h => h)) (fun Q h => h))) (fun z => ?_) (fun z => ?_)
          · refine bad fun ⟨r', xs', e1, e2, e3, _⟩ => ?_
            rw [hr] at e1; cases e1; rw [hxs] at e2; cases e2
            simp at z
            omega
          · have hz : xs.length = l.length - i := by
              simp at z
              omega
            refine if_only (b := !xs.all isNum) (ev_notR (ev_tru (ev_all (t := r) isNum rfl hxs (by rw [sizeLine_eq]; omega) fun x hx => ev_call1 (s := .p x) (ev_var rfl) fun Q E q => ⟨x, rfl, hc.c2 l hl r hrm xs hxs x hx, q⟩))) (fun z => ?_) (fun z2 => ?_)
            · refine bad fun ⟨r', xs', e1, e2, e3, e4⟩ => ?_
              rw [hr] at e1; cases e1; rw [hxs] at e2; cases e2
              have : xs.all isNum = true := List.all_eq_true.mpr e4
              rw [this] at z; cases z
            · refine hK _ ⟨_, _, rfl, fun j hj => ?_⟩
              by_cases e : j = i
              · subst e
                exact ⟨r, xs, hr, hxs, hz, List.all_eq_true.mp (by simpa using z2)⟩
              · exact ok j (by omega)
      · rintro e ⟨x1, x2, rfl, ok⟩
        have hel : (enumT l 0).length = l.length := enumT_length l 0
        rw [hel] at ok
        have sh : Shape n t := ⟨l, hl, hnl, fun j hj => by rw [← hnl]; exact ok j (by omega)⟩
        have sh0 := sh.at (p := (0, 0)) (by simp)
        obtain ⟨l', r0, xs0, k1, k2, k3, k4⟩ := id sh0
        rw [hl] at k1
        cases k1
        refine if_seq (b := !decide (ent t (0, 0) = 0)) (ev_neI (x := ent t (0, 0)) (y := 0) (fun Q E q => ev_op (x := .p r0) (y := .p (.int 0)) (z := .p (.int (ent t (0, 0)))) (ev_op (x := .p t) (y := .p (.int 0)) (z := .p r0) (ev_slot rfl) ev_c (fun Q h => ⟨r0, by rw [at_items hl]; exact atI_n k2, h⟩)) ev_c (fun Q h => ⟨_, by rw [at_items k3]; exact atI_n k4, h⟩) _ _ q) ev_c) (fun z => ?_) (fun z => ?_)
        · refine h false ⟨fun z => Bool.noConfusion z, fun ⟨m, _, _, _, e0, _⟩ => ?_⟩
          simp [e0] at z
        have e0 : ent t (0, 0) = 0 := by simpa using z
        have elen : EvI (rCall fLen (rCons (rSlot 0) rNil)) [some (.p t), x1, x2, none, none, none, none, none] l.length := ev_len rfl hl
        have hnn : ((l.length : Int) - 1) = ((n : Nat) : Int) := by omega
        -- the fours
        show rSeq _ _ _ _
        have core : ∀ dl, DiaOk n dl → forW (gTs [3, 4, 5, 6]) (rIfS (tOpT fLt (rOp fAdd (rCallU fAt (fCons (rVar 0) (fCons (rVar 3) fNil))) (rCallU fAt (fCons (rVar 0) (fCons (rVar 4) fNil)))) (rOp fAdd (rCallU fAt (fCons (rVar 0) (fCons (rVar 5) fNil))) (rCallU fAt (fCons (rVar 0) (fCons (rVar 6) fNil))))) (rRet (rC (.bl false))) rNext)
            { nx := rRet (rC (.bl true)) { nx := fun _ => Q (.p .non), rt := fun s _ => Q s, bk := fun _ => False, ct := fun _ => False, ex := E }, rt := fun s _ => Q s, bk := fun _ => False, ct := fun _ => False, ex := E } dl [some (.p t), x1, x2, none, none, none, none, none] := fun dl hd => by
          refine forW_inv (fun k e => (∃ a b c d, e = [some (.p t), x1, x2, a, b, c, d, none]) ∧ ∀ m < k, ∀ a b c d, dl[m]? = some (quad a b c d) → ent t c + ent t d ≤ ent t a + ent t b) ⟨⟨_, _, _, _, rfl⟩, by omega⟩ ?_ ?_
          · rintro k x e K hx ⟨⟨y1, y2, y3, y4, rfl⟩, ok⟩ hK
            obtain ⟨a, b, c, d, dm, rfl⟩ := hd.get hx
            obtain ⟨w1, w2, w3, w4⟩ := dm.within
            refine ⟨_, rfl, rfl, ?_⟩
            refine if_only (b := decide (ent t a + ent t b < ent t c + ent t d)) (ev_lt (ev_add (ev_at rfl rfl (sh.at w1)) (ev_at rfl rfl (sh.at w2))) (ev_add (ev_at rfl rfl (sh.at w3)) (ev_at rfl rfl (sh.at w4)))) (fun z => ?_) (fun z => ?_)
            · refine h false ⟨fun z => Bool.noConfusion z, fun ⟨m, _, _, sh', _, iq⟩ => ?_⟩
              have : m = n := by have := (sh'.len hl).1; omega
              subst this
              have := iq a b c d dm
              simp at z
              omega
            · refine hK _ ⟨⟨_, _, _, _, rfl⟩, fun m hm a' b' c' d' e' => ?_⟩
              by_cases em : m = k
              · subst em
                rw [hx] at e'
                have := Option.some.inj e'
                unfold quad pl at this
                simp at this
                obtain ⟨⟨p1, p2⟩, ⟨p3, p4⟩, ⟨p5, p6⟩, p7, p8⟩ := this
                have ea : a = a' := Prod.ext (by omega) (by omega)
                have eb : b = b' := Prod.ext (by omega) (by omega)
                have ec : c = c' := Prod.ext (by omega) (by omega)
                have ed : d = d' := Prod.ext (by omega) (by omega)
                subst ea eb ec ed
                simpa using z
              · exact ok m (by omega) a' b' c' d' e'
          · rintro e ⟨⟨y1, y2, y3, y4, rfl⟩, ok⟩
            refine h true ⟨fun _ => ⟨n, by omega, by omega, sh, e0, fun a b c d dm => ?_⟩, fun _ => rfl⟩
            obtain ⟨m, hm, em⟩ := List.getElem_of_mem (hd.2 a b c d dm)
            exact ok m hm a b c d (by rw [List.getElem?_eq_getElem hm, em])
        show iSeq _ _ _ _
        unfold iSeq rCallU fCons fNil
        refine ev_sub (y := 1) elen ev_c _ _ ?_
        refine ⟨n, ?_, by omega, fun dl hd hz => ⟨dl, rfl, core dl hd⟩⟩
        show [T.int ((l.length : Int) - 1)] = _
        rw [hnn]
end K36

namespace K36
open PySem PySem.Spec PyProof.Rows L2 TLY
open Classical in
noncomputable def isHv (t : T) : Bool := decide (IsHive t)
theorem isHv_iff {t : T} : isHv t = true ↔ IsHive t := by unfold isHv; simp
def fCheck (C : Addr) : FSpec := fun args Q E => ∃ t, args = [t] ∧ Clean t ∧ (IsHive t → Q (.p .non)) ∧ (¬ IsHive t → E ⟨C, []⟩)
theorem check_law {K : PySem.W.Frag} {C : Addr} : ∀ args Q E, fCheck C args Q E → specOf N_check_hive 1 (t_check_hive K C fHive) args Q E := by
  rintro args Q E ⟨t, rfl, hc, h1, h2⟩
  refine ⟨rfl, ?_⟩
  show t_check_hive _ _ _ _ [some (.p t)]
  unfold t_check_hive
  refine if_only (b := !isHv t) (ev_notR (ev_tru (ev_call1 (s := .p t) (ev_var rfl) fun Q E q => ⟨t, rfl, hc, fun b hb => ?_⟩))) (fun z => ?_) (fun z => ?_)
  · have : b = isHv t := by
      have := isHv_iff (t := t)
      cases b <;> cases e : isHv t <;> simp_all
    rw [this]; exact q
  · refine h2 fun hh => ?_
    rw [isHv_iff.mpr hh] at z; cases z
  · exact h1 (isHv_iff.mp (by simpa using z))
theorem ev_entB {t : T} {n : Nat} {e : Sl} {i : Nat} {ty tx : RE} {p q : Nat} (hs : TLY.slotAt e i = some (.p t)) (sh : Shape n t) (hy : EvI ty e (q : Int)) (hx : EvI tx e (p : Int)) (h : p + q ≤ n) : EvI (rOp fIxB (rOp fIxB (rSlot i) ty) tx) e (ent t (p, q)) := by
  obtain ⟨l, r, xs, h1, h2, h3, h4⟩ := sh.at (p := (p, q)) h
  exact fun Q E w => ev_op (x := .p r) (y := .p (.int p)) (z := .p (.int (ent t (p, q)))) (ev_op (x := .p t) (y := .p (.int q)) (ev_slot hs) hy (fun Q h => ⟨r, by rw [at_items h1]; exact atI_n h2, h⟩)) hx (fun Q h => ⟨_, by rw [at_items h3]; exact atI_n h4, h⟩) _ _ w
theorem ev_ent {t : T} {n : Nat} {e : Sl} {i : Nat} {ty tx : RE} {p q : Nat} (hs : TLY.slotAt e i = some (.p t)) (sh : Shape n t) (hy : EvI ty e (q : Int)) (hx : EvI tx e (p : Int)) (h : p + q ≤ n) : EvI (rOp fIx (rOp fIxB (rSlot i) ty) tx) e (ent t (p, q)) := by
  obtain ⟨l, r, xs, h1, h2, h3, h4⟩ := sh.at (p := (p, q)) h
  exact fun Q E w => ev_op (x := .p r) (y := .p (.int p)) (z := .p (.int (ent t (p, q)))) (ev_op (x := .p t) (y := .p (.int q)) (ev_slot hs) hy (fun Q h => ⟨r, by rw [at_items h1]; exact atI_n h2, h⟩)) hx (fun Q h => ⟨_, by rw [at_items h3]; exact atI_n h4, h⟩) _ _ w
theorem ev_lenS {t : T} {n : Nat} {e : Sl} {i : Nat} (hs : TLY.slotAt e i = some (.p t)) (sh : Shape n t) : EvI (rOp fSub (rCall fLen (rCons (rSlot i) rNil)) (rC (.int 1))) e (n : Int) := by
  obtain ⟨l, h1, h2, _⟩ := sh
  have : ((l.length : Int) - 1) = (n : Int) := by omega
  rw [← this]
  exact ev_sub (ev_len hs h1) ev_c
/-! ### what the law says of a hive -/
def fKeeps : FSpec := fun args Q _ => ∃ (t : T) (n : Nat), args = [t] ∧ Shape n t ∧ n ≤ 100 ∧ ∀ b, (b = true ↔ Ineq n (ent t)) → Q (.p (.bl b))
theorem lc_pl {te : RE} {e : Sl} {k : List T → Prop} {l acc : List T} {p : Nat × Nat} {z : Int} (h : EvI te (setAll e [3, 4] [.int p.1, .int p.2]) z) (hz : acc.length < sizeLine) (hk : lcW (gTs [3, 4]) rYes te e k l (acc ++ [.int z])) : lcW (gTs [3, 4]) rYes te e k (pl p :: l) acc :=
  ⟨_, rfl, rfl, h _ _ ⟨hz, hk⟩⟩
theorem keeps_law : ∀ args Q E, fKeeps args Q E → specOf N__law_keeps 1 (t__law_keeps fDia) args Q E := by
  rintro args Q E ⟨t, n, rfl, sh, hn, h⟩
  refine ⟨rfl, ?_⟩
  show t__law_keeps _ _ [some (.p t), none, none, none, none]
  unfold t__law_keeps
  show iSeq _ _ _ _
  unfold iSeq rCallU fCons fNil
  refine ev_lenS (n := n) rfl sh _ _ ⟨n, rfl, hn, fun dl hd hz => ⟨dl, rfl, ?_⟩⟩
  have sz : (10 : Nat) ≤ sizeLine := sl10
  refine forW_inv (fun k e => (∃ x1 x2, e = [some (.p t), x1, x2, none, none]) ∧ ∀ m < k, ∀ a b c d, dl[m]? = some (quad a b c d) → ent t c + ent t d ≤ ent t a + ent t b) ⟨⟨_, _, rfl⟩, by omega⟩ ?_ ?_
  · rintro k x e K hx ⟨⟨x1, x2, rfl⟩, ok⟩ hK
    obtain ⟨a, b, c, d, dm, rfl⟩ := hd.get hx
    obtain ⟨w1, w2, w3, w4⟩ := dm.within
    refine gN_mk ?_
    have st : ∀ p : Nat × Nat, p.1 + p.2 ≤ n → EvI (rOp fIx (rOp fIxB (rSlot 0) (rSlot 4)) (rSlot 3)) (setAll (wipeE [some (.p t), some (.p (quad a b c d)), x2, none, none] [3, 4]) [3, 4] [.int p.1, .int p.2]) (ent t p) := fun p hp => ev_ent (p := p.1) (q := p.2) rfl sh (ev_slot rfl) (ev_slot rfl) hp
    refine asg_seq (s := .l1 [.int (ent t a), .int (ent t b), .int (ent t c), .int (ent t d)]) (e := [some (.p t), some (.p (quad a b c d)), x2, none, none]) (fun Q E q => ?_) ?_
    · unfold rLc
      exact ev_var (t := quad a b c d) rfl _ _ ⟨[pl a, pl b, pl c, pl d], rfl, lc_pl (st a w1) (Nat.lt_of_lt_of_le (by simp) sz) (lc_pl (st b w2) (Nat.lt_of_lt_of_le (by simp) sz) (lc_pl (st c w3) (Nat.lt_of_lt_of_le (by simp) sz) (lc_pl (st d w4) (Nat.lt_of_lt_of_le (by simp) sz) q)))⟩
    show rIfS _ _ _ _ [some (.p t), some (.p (quad a b c d)), some (.l1 [.int (ent t a), .int (ent t b), .int (ent t c), .int (ent t d)]), none, none]
    have ix : ∀ (m : Int) (z : Int), L2.atI [T.int (ent t a), .int (ent t b), .int (ent t c), .int (ent t d)] m = some (.int z) → EvI (rOp fIxB (rSlot 2) (rC (.int m))) [some (.p t), some (.p (quad a b c d)), some (.l1 [.int (ent t a), .int (ent t b), .int (ent t c), .int (ent t d)]), none, none] z := fun m z hm Q E q => ⟨_, hm, q⟩
    refine if_only (b := decide (ent t a + ent t b < ent t c + ent t d)) (ev_lt (ev_add (ix 0 _ rfl) (ix 1 _ rfl)) (ev_add (ix 2 _ rfl) (ix 3 _ rfl))) (fun z => ?_) (fun z => ?_)
    · refine h false ⟨fun z => Bool.noConfusion z, fun iq => ?_⟩
      have := iq a b c d dm
      simp at z
      omega
    · refine hK _ ⟨⟨_, _, rfl⟩, fun m hm a' b' c' d' e' => ?_⟩
      by_cases em : m = k
      · subst em
        rw [hx] at e'
        have := Option.some.inj e'
        unfold quad pl at this
        simp at this
        obtain ⟨⟨p1, p2⟩, ⟨p3, p4⟩, ⟨p5, p6⟩, p7, p8⟩ := this
        have ea : a = a' := Prod.ext (by omega) (by omega)
        have eb : b = b' := Prod.ext (by omega) (by omega)
        have ec : c = c' := Prod.ext (by omega) (by omega)
        have ed : d = d' := Prod.ext (by omega) (by omega)
        subst ea eb ec ed
        simpa using z
      · exact ok m (by omega) a' b' c' d' e'
  · rintro e ⟨⟨x1, x2, rfl⟩, ok⟩
    refine h true ⟨fun _ => fun a b c d dm => ?_, fun _ => rfl⟩
    obtain ⟨m, hm, em⟩ := List.getElem_of_mem (hd.2 a b c d dm)
    exact ok m hm a b c d (by rw [List.getElem?_eq_getElem hm, em])
theorem lhive_law : ∀ args Q E, fHive args Q E → specOf N__law_is_hive 1 (t__law_is_hive fNum fKeeps) args Q E := by
  rintro args Q E ⟨t, rfl, hc, h⟩
  refine ⟨rfl, ?_⟩
  show t__law_is_hive _ _ _ [some (.p t), none, none, none]
  unfold t__law_is_hive
  cases hl : t.items? with
  | none =>
    refine if_seq (b := true || false) (ev_or (ev_notR (ev_tru (by have := ev_isSeq (e := [some (.p t), none, none, none]) (i := 0) (t := t) rfl hc.c0; rw [hl] at this; exact this))) (fun z => by cases z)) (fun _ => ?_) (fun z => by cases z)
    refine h false ⟨fun z => Bool.noConfusion z, fun ⟨n, _, _, ⟨l, h1, _⟩, _⟩ => ?_⟩
    rw [hl] at h1; cases h1
  | some l =>
    refine if_seq (b := false || !(decide ((2 : Int) ≤ l.length) && decide ((l.length : Int) ≤ 7))) (ev_or (ev_notR (ev_tru (a := true) (by have := ev_isSeq (e := [some (.p t), none, none, none]) (i := 0) (t := t) rfl hc.c0; rw [hl] at this; exact this)))
      (fun _ => ev_notR (ev_chain (x := .p (.int 2)) (y := .p (.int l.length)) (z := .p (.int 7)) ev_c (ev_len (e := [some (.p t), none, none, none]) rfl hl) (fun Q h => h) ev_c (fun Q h => h)))) (fun z => ?_) (fun z => ?_)
    · refine h false ⟨fun z => Bool.noConfusion z, fun ⟨n, n1, n6, sh, _⟩ => ?_⟩
      have := (sh.len hl).1
      simp at z
      omega
    · have hn : 2 ≤ l.length ∧ l.length ≤ 7 := by
        simp at z
        omega
      obtain ⟨n, hnl⟩ : ∃ n, l.length = n + 1 := ⟨l.length - 1, by omega⟩
      refine for_seq (l := TLY.upTo 0 l.length) (fun Q E q => ev_len rfl hl _ _ ⟨by omega, q⟩) (fun i e => ∃ x y, e = [some (.p t), x, y, none] ∧ ∀ j < i, RowOk l.length l j) ⟨none, none, rfl, by omega⟩ ?_ ?_
      · rintro i x e K hx ⟨x1, x2, rfl, ok⟩ hK
        have hi : i < l.length := by
          rcases Nat.lt_or_ge i l.length with z | z
          · exact z
          · rw [List.getElem?_eq_none (by rw [upTo_length]; exact z)] at hx; cases hx
        obtain rfl : x = .int (i : Int) := by
          unfold TLY.upTo at hx
          rw [List.getElem?_map, List.getElem?_range hi] at hx
          simpa using hx.symm
        have hr : l[i]? = some l[i] := List.getElem?_eq_getElem hi
        generalize l[i] = r at hr
        have hrm := List.mem_of_getElem? hr
        have bad : ¬ RowOk l.length l i → Q (.p (.bl false)) := fun nb => h false ⟨fun z => Bool.noConfusion z, fun ⟨m, _, _, sh, _⟩ => by
          obtain ⟨q1, q2⟩ := sh.len hl
          have := q2 i (by omega)
          rw [← q1] at this
          exact absurd this nb⟩
        refine gN_mk ?_
        refine asg_seq (s := .p r) (e := [some (.p t), some (.p (.int (i : Int))), x2, none]) (ev_op (x := .p t) (y := .p (.int i)) (z := .p r) (ev_slot rfl) (ev_slot rfl) (fun Q h => ⟨r, by rw [at_items hl]; exact atI_n hr, h⟩)) ?_
        show rIfS _ _ _ _ [some (.p t), some (.p (.int (i : Int))), some (.p r), none]
        cases hxs : r.items? with
        | none =>
          refine if_only (b := true || false) (ev_or (ev_notR (ev_tru (by have := ev_isSeq (e := [some (.p t), some (.p (.int (i : Int))), some (.p r), none]) (i := 2) (t := r) rfl (hc.c1 l hl r hrm); rw [hxs] at this; exact this))) (fun z => by cases z)) (fun _ => ?_) (fun z => by cases z)
          refine bad fun ⟨r', xs, e1, e2, _⟩ => ?_
          rw [hr] at e1; cases e1; rw [hxs] at e2; cases e2
        | some xs =>
          refine if_only (b := false || ((!decide ((xs.length : Int) = (l.length : Int) - (i : Int))) || !xs.all isNum)) (ev_or (ev_notR (ev_tru (a := true) (by have := ev_isSeq (e := [some (.p t), some (.p (.int (i : Int))), some (.p r), none]) (i := 2) (t := r) rfl (hc.c1 l hl r hrm); rw [hxs] at this; exact this)))
            (fun _ => ev_or (ev_neI (ev_len (e := [some (.p t), some (.p (.int (i : Int))), some (.p r), none]) rfl hxs) (ev_sub (ev_len (e := [some (.p t), some (.p (.int (i : Int))), some (.p r), none]) rfl hl) (ev_slot rfl))) (fun z => ev_notR (ev_tru (ev_all (t := r) isNum rfl hxs (by simp at z; rw [sizeLine_eq]; omega) fun x hx => ev_call1 (s := .p x) (ev_var rfl) fun Q E q => ⟨x, rfl, hc.c2 l hl r hrm xs hxs x hx, q⟩))))) (fun z => ?_) (fun z2 => ?_)
          · refine bad fun ⟨r', xs', e1, e2, e3, e4⟩ => ?_
            rw [hr] at e1; cases e1; rw [hxs] at e2; cases e2
            have e5 : xs.all isNum = true := List.all_eq_true.mpr e4
            rw [e5] at z
            simp at z
            omega
          · simp only [Bool.false_or, Bool.or_eq_false_iff, Bool.not_eq_false', decide_eq_true_eq] at z2
            refine hK _ ⟨_, _, rfl, fun j hj => ?_⟩
            by_cases e : j = i
            · subst e
              exact ⟨r, xs, hr, hxs, by omega, List.all_eq_true.mp z2.2⟩
            · exact ok j (by omega)
      · rintro e ⟨x1, x2, rfl, ok⟩
        rw [upTo_length] at ok
        have sh : Shape n t := ⟨l, hl, hnl, fun j hj => by rw [← hnl]; exact ok j (by omega)⟩
        show rAnd _ _ _ _ _
        unfold rAnd
        refine ev_op (x := .p (.int (ent t (0, 0)))) (y := .p (.int 0)) (z := .p (.bl (decide (ent t (0, 0) = 0)))) (ev_entB (p := 0) (q := 0) rfl sh ev_c ev_c (by simp)) ev_c (fun Q h => h) _ _ ⟨_, rfl, ?_⟩
        by_cases e0 : ent t (0, 0) = 0
        · rw [decide_eq_true e0]
          simp only [if_true]
          unfold rCallU fCons
          refine ev_var rfl _ _ ⟨t, n, rfl, sh, by omega, fun b hb => h b ⟨fun hbt => ⟨n, by omega, by omega, sh, e0, hb.mp hbt⟩, fun ⟨m, _, _, sh', _, iq⟩ => hb.mpr ?_⟩⟩
          have : m = n := by have := (sh'.len hl).1; omega
          subst this
          exact iq
        · rw [decide_eq_false e0]
          simp only [Bool.false_eq_true, if_false]
          exact h false ⟨fun z => Bool.noConfusion z, fun ⟨m, _, _, _, e, _⟩ => absurd e e0⟩
end K36

namespace K36
open PySem PySem.Spec PyProof.Rows L2 TLY
/-! ### grids -/
def grow (n : Nat) (f : Nat × Nat → Int) (j : Nat) : T := .tup ((List.range (n + 1 - j)).map fun i => .int (f (i, j)))
def grid (n : Nat) (f : Nat × Nat → Int) : T := .tup ((List.range (n + 1)).map (grow n f))
theorem grid_row {n : Nat} {f : Nat × Nat → Int} {j : Nat} (h : j < n + 1) : ((List.range (n + 1)).map (grow n f))[j]? = some (grow n f j) := by
  rw [List.getElem?_map, List.getElem?_range h]; rfl
theorem grid_shape {n : Nat} {f : Nat × Nat → Int} : Shape n (grid n f) := by
  refine ⟨_, rfl, by simp, fun j hj => ⟨_, _, grid_row hj, rfl, by simp, fun x hx => ?_⟩⟩
  obtain ⟨i, _, rfl⟩ := List.mem_map.mp hx
  rfl
theorem grid_ent {n : Nat} {f : Nat × Nat → Int} {p : Nat × Nat} (h : p.1 + p.2 ≤ n) : ent (grid n f) p = f p := by
  have a : At (grid n f) p (f p) := ⟨_, _, _, rfl, grid_row (by omega), rfl, by rw [List.getElem?_map, List.getElem?_range (by omega)]; rfl⟩
  exact a.ent
theorem grid_congr {n : Nat} {f g : Nat × Nat → Int} (h : ∀ p : Nat × Nat, p.1 + p.2 ≤ n → f p = g p) : grid n f = grid n g := by
  unfold grid grow
  congr 1
  refine List.map_congr_left fun j hj => ?_
  congr 1
  refine List.map_congr_left fun i hi => ?_
  rw [h (i, j) (by simp at hi hj ⊢; omega)]
theorem grid_clean {n : Nat} {f : Nat × Nat → Int} : Clean (grid n f) := by
  refine ⟨rfl, fun l hl r hr => ?_, fun l hl r hr xs hxs x hx => ?_⟩
  · cases hl
    obtain ⟨j, _, rfl⟩ := List.mem_map.mp hr
    rfl
  · cases hl
    obtain ⟨j, _, rfl⟩ := List.mem_map.mp hr
    cases hxs
    obtain ⟨i, _, rfl⟩ := List.mem_map.mp hx
    rfl
def turnF (n : Nat) (f : Nat × Nat → Int) : Nat × Nat → Int := fun p => f (n - p.1 - p.2, p.1) - f (n, 0)
def first (n : Nat) (f : Nat × Nat → Int) : List Int := (List.range n).map fun k => f (k + 1, 0) - f (k, 0)
def second (n : Nat) (f : Nat × Nat → Int) : List Int := (List.range n).map fun k => f (n - (k + 1), k + 1) - f (n - k, k)
def third (n : Nat) (f : Nat × Nat → Int) : List Int := (List.range n).map fun k => f (0, k + 1) - f (0, k)
def tInts (l : List Int) : T := .tup (l.map .int)
def bordT (n : Nat) (f : Nat × Nat → Int) : T := .tup [tInts (first n f), tInts (second n f), tInts (third n f)]
theorem big {n : Nat} (h : n ≤ 1000) : n ≤ sizeLine := by rw [sizeLine_eq]; omega
/-- tuple([.. for k in range(m)]) -/
theorem ev_tupR {e : Sl} {tn te : RE} {k m : Nat} (f : Nat → S) (hn : EvI tn e (m : Int)) (hm : m ≤ 1000) (he : ∀ j, j < m → EvS te ((wipeE e [k]).set k (some (.p (.int (j : Int))))) (f j)) :
    EvS (rCall fTuple (rCons (rLc (iR1 tn) (gN k) rYes te [k]) rNil)) e (.p (.tup ((List.range m).map fun j => (f j).fz))) := fun Q E q => by
  unfold rCall rCons rNil rLc iR1
  refine hn _ _ ⟨⟨by omega, by omega⟩, ?_⟩
  have : ((m : Int)).toNat = m := by omega
  rw [this]
  refine lcW_upTo (lo := 0) f (fun j hj Q' hq => ?_) (big hm) ⟨_, rfl, q⟩
  have e0 : (0 : Int) + (j : Int) = (j : Int) := by omega
  rw [e0]
  exact he j hj _ _ hq
/-- [.. for k in range(1, m + 1)] -/
theorem ev_lcR2 {e : Sl} {ta tb te : RE} {k m : Nat} (f : Nat → S) (ha : EvI ta e 1) (hb : EvI tb e ((m : Int) + 1)) (hm : m ≤ 1000) (he : ∀ j, j < m → EvS te ((wipeE e [k]).set k (some (.p (.int ((j : Int) + 1))))) (f j)) :
    EvS (rLc (iR2 ta tb) (gN k) rYes te [k]) e (.l1 ((List.range m).map fun j => (f j).fz)) := fun Q E q => by
  unfold rLc iR2
  refine ha _ _ (hb _ _ ⟨⟨by omega, by omega, by omega, by omega⟩, ?_⟩)
  have : ((m : Int) + 1 - 1).toNat = m := by omega
  rw [this]
  refine lcW_upTo (lo := 1) f (fun j hj Q' hq => ?_) (big hm) q
  have e0 : (1 : Int) + (j : Int) = (j : Int) + 1 := by omega
  rw [e0]
  exact he j hj _ _ hq
theorem ev_tupL {t : RE} {e : Sl} {l : List T} (h : EvS t e (.l1 l)) : EvS (rCall fTuple (rCons t rNil)) e (.p (.tup l)) := fun Q E q => by
  unfold rCall rCons rNil
  exact h _ _ ⟨l, rfl, q⟩
theorem evI_cast {t : RE} {e : Sl} {x y : Int} (h : EvI t e x) (e' : x = y) : EvI t e y := e' ▸ h
theorem tInts_eq {m : Nat} (f : Nat → Int) : T.tup ((List.range m).map fun j => (S.p (.int (f j))).fz) = tInts ((List.range m).map f) := by
  unfold tInts
  rw [List.map_map]
  rfl
/-! ### borders, turns -/
theorem ev_first {t : T} {n : Nat} {e : Sl} {i1 k : Nat} (sh : Shape n t) (hn : n ≤ 900) (h0 : TLY.slotAt (wipeE e [k]) 0 = some (.p t)) (h1 : TLY.slotAt e i1 = some (.p (.int n))) (hk0 : ∀ s, TLY.slotAt ((wipeE e [k]).set k s) 0 = some (.p t)) (hkk : ∀ s, TLY.slotAt ((wipeE e [k]).set k s) k = s) :
    EvS (rLc (iR2 (rC (.int 1)) (rOp fAdd (rSlot i1) (rC (.int 1)))) (gN k) rYes (rOp fSub (rOp fIxB (rOp fIxB (rSlot 0) (rC (.int 0))) (rSlot k)) (rOp fIxB (rOp fIxB (rSlot 0) (rC (.int 0))) (rOp fSub (rSlot k) (rC (.int 1))))) [k]) e (.l1 ((first n (ent t)).map .int)) := by
  have := ev_lcR2 (e := e) (k := k) (m := n) (ta := rC (.int 1)) (tb := rOp fAdd (rSlot i1) (rC (.int 1))) (te := rOp fSub (rOp fIxB (rOp fIxB (rSlot 0) (rC (.int 0))) (rSlot k)) (rOp fIxB (rOp fIxB (rSlot 0) (rC (.int 0))) (rOp fSub (rSlot k) (rC (.int 1)))))
    (fun j => .p (.int (ent t (j + 1, 0) - ent t (j, 0)))) ev_c (ev_add (ev_slot h1) ev_c) (by omega) fun j hj => ev_sub (ev_entB (p := j + 1) (q := 0) (hk0 _) sh ev_c (evI_cast (ev_slot (hkk _)) (by omega)) (by omega)) (ev_entB (p := j) (q := 0) (hk0 _) sh ev_c (evI_cast (ev_sub (ev_slot (hkk _)) ev_c) (by omega)) (by omega))
  unfold first
  rw [List.map_map]
  exact this
theorem ev_second {t : T} {n : Nat} {e : Sl} {i1 k : Nat} (sh : Shape n t) (hn : n ≤ 900) (h1 : TLY.slotAt e i1 = some (.p (.int n))) (hk0 : ∀ s, TLY.slotAt ((wipeE e [k]).set k s) 0 = some (.p t)) (hk1 : ∀ s, TLY.slotAt ((wipeE e [k]).set k s) i1 = some (.p (.int n))) (hkk : ∀ s, TLY.slotAt ((wipeE e [k]).set k s) k = s) :
    EvS (rLc (iR2 (rC (.int 1)) (rOp fAdd (rSlot i1) (rC (.int 1)))) (gN k) rYes (rOp fSub (rOp fIxB (rOp fIxB (rSlot 0) (rSlot k)) (rOp fSub (rSlot i1) (rSlot k))) (rOp fIxB (rOp fIxB (rSlot 0) (rOp fSub (rSlot k) (rC (.int 1)))) (rOp fAdd (rOp fSub (rSlot i1) (rSlot k)) (rC (.int 1))))) [k]) e (.l1 ((second n (ent t)).map .int)) := by
  have := ev_lcR2 (e := e) (k := k) (m := n) (ta := rC (.int 1)) (tb := rOp fAdd (rSlot i1) (rC (.int 1))) (te := rOp fSub (rOp fIxB (rOp fIxB (rSlot 0) (rSlot k)) (rOp fSub (rSlot i1) (rSlot k))) (rOp fIxB (rOp fIxB (rSlot 0) (rOp fSub (rSlot k) (rC (.int 1)))) (rOp fAdd (rOp fSub (rSlot i1) (rSlot k)) (rC (.int 1)))))
    (fun j => .p (.int (ent t (n - (j + 1), j + 1) - ent t (n - j, j)))) ev_c (ev_add (ev_slot h1) ev_c) (by omega) fun j hj => ev_sub (ev_entB (p := n - (j + 1)) (q := j + 1) (hk0 _) sh (evI_cast (ev_slot (hkk _)) (by omega)) (evI_cast (ev_sub (ev_slot (hk1 _)) (ev_slot (hkk _))) (by omega)) (by omega)) (ev_entB (p := n - j) (q := j) (hk0 _) sh (evI_cast (ev_sub (ev_slot (hkk _)) ev_c) (by omega)) (evI_cast (ev_add (ev_sub (ev_slot (hk1 _)) (ev_slot (hkk _))) ev_c) (by omega)) (by omega))
  unfold second
  rw [List.map_map]
  exact this
theorem ev_third {t : T} {n : Nat} {e : Sl} {i1 k : Nat} (sh : Shape n t) (hn : n ≤ 900) (h1 : TLY.slotAt e i1 = some (.p (.int n))) (hk0 : ∀ s, TLY.slotAt ((wipeE e [k]).set k s) 0 = some (.p t)) (hkk : ∀ s, TLY.slotAt ((wipeE e [k]).set k s) k = s) :
    EvS (rLc (iR2 (rC (.int 1)) (rOp fAdd (rSlot i1) (rC (.int 1)))) (gN k) rYes (rOp fSub (rOp fIxB (rOp fIxB (rSlot 0) (rSlot k)) (rC (.int 0))) (rOp fIxB (rOp fIxB (rSlot 0) (rOp fSub (rSlot k) (rC (.int 1)))) (rC (.int 0)))) [k]) e (.l1 ((third n (ent t)).map .int)) := by
  have := ev_lcR2 (e := e) (k := k) (m := n) (ta := rC (.int 1)) (tb := rOp fAdd (rSlot i1) (rC (.int 1))) (te := rOp fSub (rOp fIxB (rOp fIxB (rSlot 0) (rSlot k)) (rC (.int 0))) (rOp fIxB (rOp fIxB (rSlot 0) (rOp fSub (rSlot k) (rC (.int 1)))) (rC (.int 0))))
    (fun j => .p (.int (ent t (0, j + 1) - ent t (0, j)))) ev_c (ev_add (ev_slot h1) ev_c) (by omega) fun j hj => ev_sub (ev_entB (p := 0) (q := j + 1) (hk0 _) sh (evI_cast (ev_slot (hkk _)) (by omega)) ev_c (by omega)) (ev_entB (p := 0) (q := j) (hk0 _) sh (evI_cast (ev_sub (ev_slot (hkk _)) ev_c) (by omega)) ev_c (by omega))
  unfold third
  rw [List.map_map]
  exact this
theorem ev_tup3 {x y z : RE} {e : Sl} {a b c : S} (hx : EvS x e a) (hy : EvS y e b) (hz : EvS z e c) : EvS (rTup (fCons x (fCons y (fCons z fNil)))) e (.p (.tup [a.fz, b.fz, c.fz])) := fun Q E h =>
  hx _ _ (hy _ _ (hz _ _ ⟨by simp only [List.length_cons, List.length_nil]; rw [sizeLine_eq]; decide, h⟩))
def fLBord : FSpec := fun args Q _ => ∃ (t : T) (n : Nat), args = [t] ∧ Shape n t ∧ n ≤ 900 ∧ Q (.p (bordT n (ent t)))
theorem lbord_law : ∀ args Q E, fLBord args Q E → specOf N__law_border 1 t__law_border args Q E := by
  rintro args Q E ⟨t, n, rfl, sh, hn, h⟩
  refine ⟨rfl, ?_⟩
  show t__law_border _ [some (.p t), none, none, none, none, none]
  unfold t__law_border
  refine asg_seq (ev_lenS (n := n) rfl sh) ?_
  refine asg_seq (ev_tupL (ev_first (e := [some (.p t), some (.p (.int n)), none, none, none, none]) sh hn rfl rfl (fun _ => rfl) (fun _ => rfl))) ?_
  refine asg_seq (ev_tupL (ev_second (e := [some (.p t), some (.p (.int n)), some (.p (.tup ((first n (ent t)).map .int))), none, none, none]) sh hn rfl (fun _ => rfl) (fun _ => rfl) (fun _ => rfl))) ?_
  exact ret_ev (ev_tup3 (ev_var (e := [some (.p t), some (.p (.int n)), some (.p (.tup ((first n (ent t)).map .int))), some (.p (.tup ((second n (ent t)).map .int))), none, none]) rfl) (ev_var rfl) (ev_tupL (ev_third sh hn rfl (fun _ => rfl) (fun _ => rfl)))) h
def fBord (C : Addr) : FSpec := fun args Q E => ∃ t, args = [t] ∧ Clean t ∧ (∀ n, n ≤ 6 → Shape n t → IsHive t → Q (.p (bordT n (ent t)))) ∧ (¬ IsHive t → E ⟨C, []⟩)
theorem bord_law {C : Addr} : ∀ args Q E, fBord C args Q E → specOf N_border 1 (t_border (fCheck C)) args Q E := by
  rintro args Q E ⟨t, rfl, hc, h, h2⟩
  refine ⟨rfl, ?_⟩
  show t_border _ _ [some (.p t), none, none, none, none, none, none]
  unfold t_border
  show rCallU _ _ _ _ _
  unfold rCallU fCons fNil
  refine ev_var rfl _ _ ⟨t, rfl, hc, fun hh => ?_, h2⟩
  obtain ⟨n, n1, n6, sh, _⟩ := id hh
  have hn : n ≤ 900 := by omega
  show rSeq _ _ _ [some (.p t), none, none, none, none, none, none]
  refine asg_seq (ev_lenS (i := 0) (n := n) (e := [some (.p t), none, none, none, none, none, none]) rfl sh) ?_
  refine asg_seq (ev_first (i1 := 1) (k := 5) (e := [some (.p t), some (.p (.int n)), none, none, none, none, none]) sh hn rfl rfl (fun _ => rfl) (fun _ => rfl)) ?_
  refine asg_seq (ev_second (i1 := 1) (k := 6) (e := [some (.p t), some (.p (.int n)), some (.l1 ((first n (ent t)).map .int)), none, none, none, none]) sh hn rfl (fun _ => rfl) (fun _ => rfl) (fun _ => rfl)) ?_
  refine asg_seq (ev_third (i1 := 1) (k := 6) (e := [some (.p t), some (.p (.int n)), some (.l1 ((first n (ent t)).map .int)), some (.l1 ((second n (ent t)).map .int)), none, none, none]) sh hn rfl (fun _ => rfl) (fun _ => rfl)) ?_
  exact ret_ev (ev_tup3 (ev_tupL (ev_slot (e := [some (.p t), some (.p (.int n)), some (.l1 ((first n (ent t)).map .int)), some (.l1 ((second n (ent t)).map .int)), some (.l1 ((third n (ent t)).map .int)), none, none]) rfl)) (ev_tupL (ev_slot rfl)) (ev_tupL (ev_slot rfl))) (h n n6 sh hh)
end K36

namespace K36
open PySem PySem.Spec PyProof.Rows L2 TLY
/-! ### turns, sums, straight hives -/
theorem nsub {n i j : Nat} (h : i + j ≤ n) : (n : Int) - (i : Int) - (j : Int) = ((n - i - j : Nat) : Int) := by omega
theorem nsub1 {n j : Nat} (h : j < n + 1) : (n : Int) + 1 - (j : Int) = ((n + 1 - j : Nat) : Int) := by omega
def fLTurn : FSpec := fun args Q _ => ∃ (t : T) (n : Nat), args = [t] ∧ Shape n t ∧ n ≤ 900 ∧ Q (.p (grid n (turnF n (ent t))))
theorem lturn_law : ∀ args Q E, fLTurn args Q E → specOf N__law_turned 1 t__law_turned args Q E := by
  rintro args Q E ⟨t, n, rfl, sh, hn, h⟩
  refine ⟨rfl, ?_⟩
  show t__law_turned _ [some (.p t), none, none, none]
  unfold t__law_turned
  refine asg_seq (ev_lenS (i := 0) (n := n) rfl sh) ?_
  refine ret_ev (ev_tupR (e := [some (.p t), some (.p (.int n)), none, none]) (k := 2) (m := n + 1) (fun j => .p (grow n (turnF n (ent t)) j)) (evI_cast (ev_add (ev_slot (i := 1) rfl) ev_c) (by omega)) (by omega) fun j hj => ?_) h
  refine ev_tupR (e := [some (.p t), some (.p (.int n)), some (.p (.int j)), none]) (k := 3) (m := n + 1 - j) (fun i => .p (.int (turnF n (ent t) (i, j)))) (evI_cast (ev_sub (ev_add (ev_slot (i := 1) rfl) ev_c) (ev_slot (i := 2) rfl)) (nsub1 hj)) (by omega) fun i hi => ?_
  exact ev_sub (ev_entB (i := 0) (p := n - i - j) (q := i) (e := [some (.p t), some (.p (.int n)), some (.p (.int j)), some (.p (.int i))]) rfl sh (ev_slot rfl) (evI_cast (ev_sub (ev_sub (ev_slot (i := 1) rfl) (ev_slot (i := 3) rfl)) (ev_slot (i := 2) rfl)) (nsub (by omega))) (by omega)) (ev_entB (i := 0) (p := n) (q := 0) rfl sh ev_c (ev_slot rfl) (by omega))
def fTurn (C : Addr) : FSpec := fun args Q E => ∃ t, args = [t] ∧ Clean t ∧ (∀ n, 1 ≤ n → n ≤ 6 → Shape n t → IsHive t → Q (.p (grid n (turnF n (ent t))))) ∧ (¬ IsHive t → E ⟨C, []⟩)
theorem turn_law {C : Addr} : ∀ args Q E, fTurn C args Q E → specOf N_turned_hive 1 (t_turned_hive (fCheck C)) args Q E := by
  rintro args Q E ⟨t, rfl, hc, h, h2⟩
  refine ⟨rfl, ?_⟩
  show t_turned_hive _ _ [some (.p t), none, none, none, none]
  unfold t_turned_hive
  show rCallU _ _ _ _ _
  unfold rCallU fCons fNil
  refine ev_var rfl _ _ ⟨t, rfl, hc, fun hh => ?_, h2⟩
  obtain ⟨n, n1, n6, sh, _⟩ := id hh
  show rSeq _ _ _ [some (.p t), none, none, none, none]
  refine asg_seq (ev_lenS (i := 0) (e := [some (.p t), none, none, none, none]) (n := n) rfl sh) ?_
  refine asg_seq (ev_ent (i := 0) (e := [some (.p t), some (.p (.int n)), none, none, none]) (p := n) (q := 0) rfl sh ev_c (ev_slot rfl) (by omega)) ?_
  refine ret_ev (ev_tupR (e := [some (.p t), some (.p (.int n)), some (.p (.int (ent t (n, 0)))), none, none]) (k := 3) (m := n + 1) (fun j => .p (grow n (turnF n (ent t)) j)) (evI_cast (ev_add (ev_slot (i := 1) rfl) ev_c) (by omega)) (by omega) fun j hj => ?_) (h n n1 n6 sh hh)
  refine ev_tupR (e := [some (.p t), some (.p (.int n)), some (.p (.int (ent t (n, 0)))), some (.p (.int j)), none]) (k := 4) (m := n + 1 - j) (fun i => .p (.int (turnF n (ent t) (i, j)))) (evI_cast (ev_sub (ev_add (ev_slot (i := 1) rfl) ev_c) (ev_slot (i := 3) rfl)) (nsub1 hj)) (by omega) fun i hi => ?_
  exact ev_sub (ev_entB (i := 0) (p := n - i - j) (q := i) (e := [some (.p t), some (.p (.int n)), some (.p (.int (ent t (n, 0)))), some (.p (.int j)), some (.p (.int i))]) rfl sh (ev_slot rfl) (evI_cast (ev_sub (ev_sub (ev_slot (i := 1) rfl) (ev_slot (i := 4) rfl)) (ev_slot (i := 3) rfl)) (nsub (by omega))) (by omega)) (ev_slot (i := 2) rfl)
def fSumH : FSpec := fun args Q _ => ∃ (t u : T) (n : Nat), args = [t, u] ∧ Shape n t ∧ Shape n u ∧ n ≤ 900 ∧ Q (.p (grid n fun p => ent t p + ent u p))
theorem ev_lenRow {t : T} {n j : Nat} {e : Sl} {i k : Nat} (hs : TLY.slotAt e i = some (.p t)) (hk : TLY.slotAt e k = some (.p (.int (j : Int)))) (sh : Shape n t) (hj : j < n + 1) : EvI (rCall fLen (rCons (rOp fIxB (rSlot i) (rSlot k)) rNil)) e ((n + 1 - j : Nat) : Int) := by
  obtain ⟨l, h1, h2, h3⟩ := sh
  obtain ⟨r, xs, e1, e2, e3, _⟩ := h3 j hj
  intro Q E q
  unfold rCall rCons rNil
  refine ev_op (x := .p t) (y := .p (.int j)) (z := .p r) (ev_slot hs) (ev_slot hk) (fun Q h => ⟨r, by rw [at_items h1]; exact atI_n e1, h⟩) _ _ ⟨xs.length, size_items e2, ?_⟩
  rw [e3]
  exact q
theorem sumh_law : ∀ args Q E, fSumH args Q E → specOf N__law_hive_sum 2 t__law_hive_sum args Q E := by
  rintro args Q E ⟨t, u, n, rfl, sh, sh2, hn, h⟩
  refine ⟨rfl, ?_⟩
  show t__law_hive_sum _ [some (.p t), some (.p u), none, none]
  unfold t__law_hive_sum
  obtain ⟨l, h1, h2, h3⟩ := id sh
  refine ret_ev (ev_tupR (e := [some (.p t), some (.p u), none, none]) (k := 2) (m := n + 1) (fun j => .p (grow n (fun p => ent t p + ent u p) j)) (evI_cast (ev_len (i := 0) rfl h1) (by omega)) (by omega) fun j hj => ?_) h
  refine ev_tupR (e := [some (.p t), some (.p u), some (.p (.int j)), none]) (k := 3) (m := n + 1 - j) (fun i => .p (.int (ent t (i, j) + ent u (i, j)))) (ev_lenRow (i := 0) (k := 2) rfl rfl sh hj) (by omega) fun i hi => ?_
  exact ev_add (ev_entB (i := 0) (e := [some (.p t), some (.p u), some (.p (.int j)), some (.p (.int i))]) rfl sh (ev_slot rfl) (ev_slot rfl) (by omega)) (ev_entB (i := 1) rfl sh2 (ev_slot rfl) (ev_slot rfl) (by omega))
def straight (a b : List Int) : Nat × Nat → Int := fun p => (a.take (p.1 + p.2)).sum + (b.take p.2).sum
def fStraight : FSpec := fun args Q _ => ∃ (a b : List Int) (n : Nat), args = [.lst (a.map .int), .lst (b.map .int)] ∧ a.length = n ∧ n ≤ 900 ∧ Q (.p (grid n (straight a b)))
theorem ev_sumTake {a : List Int} {e : Sl} {i k : Nat} {tk : RE} (hs : TLY.slotAt e i = some (.p (.lst (a.map .int)))) (hk : EvI tk e (k : Int)) : EvI (rCall fSum (rCons (rSl (rSlot i) rNoPart (rPart tk)) rNil)) e (a.take k).sum := by
  intro Q E q
  unfold rCall rCons rNil rSl rNoPart rPart
  refine ev_slot hs _ _ (hk _ _ ⟨a.map .int, rfl, ?_⟩)
  refine ⟨a.take k, ?_, q⟩
  show some (cut (a.map T.int) none (some (k : Int))) = _
  unfold cut
  rw [HT.sIx_nat]
  show some (List.take (min k (a.map T.int).length - 0) (List.drop 0 (a.map T.int))) = _
  rw [List.drop_zero, Nat.sub_zero, List.map_take]
  congr 1
  rcases Nat.le_total k (a.map T.int).length with z | z
  · rw [Nat.min_eq_left z]
  · rw [Nat.min_eq_right z, List.take_length, List.take_of_length_le z]
theorem straight_law : ∀ args Q E, fStraight args Q E → specOf N__law_straight 2 t__law_straight args Q E := by
  rintro args Q E ⟨a, b, n, rfl, ha, hn, h⟩
  refine ⟨rfl, ?_⟩
  show t__law_straight _ [some (.p (.lst (a.map .int))), some (.p (.lst (b.map .int))), none, none, none]
  unfold t__law_straight
  refine asg_seq (s := .p (.int n)) (evI_cast (ev_len (i := 0) (l := a.map .int) rfl rfl) (by rw [List.length_map, ha])) ?_
  refine ret_ev (ev_tupR (e := [some (.p (.lst (a.map .int))), some (.p (.lst (b.map .int))), some (.p (.int n)), none, none]) (k := 3) (m := n + 1) (fun j => .p (grow n (straight a b) j)) (evI_cast (ev_add (ev_slot (i := 2) rfl) ev_c) (by omega)) (by omega) fun j hj => ?_) h
  refine ev_tupR (e := [some (.p (.lst (a.map .int))), some (.p (.lst (b.map .int))), some (.p (.int n)), some (.p (.int j)), none]) (k := 4) (m := n + 1 - j) (fun i => .p (.int (straight a b (i, j)))) (evI_cast (ev_sub (ev_add (ev_slot (i := 2) rfl) ev_c) (ev_slot (i := 3) rfl)) (nsub1 hj)) (by omega) fun i hi => ?_
  exact ev_add (ev_sumTake (i := 0) (e := [some (.p (.lst (a.map .int))), some (.p (.lst (b.map .int))), some (.p (.int n)), some (.p (.int j)), some (.p (.int i))]) (k := i + j) rfl (evI_cast (ev_add (ev_slot (i := 4) rfl) (ev_slot (i := 3) rfl)) (by omega))) (ev_sumTake (i := 1) (k := j) rfl (ev_slot rfl))
/-! ### what is drawn -/
theorem log_small {n : Int} (h0 : 0 ≤ n) (h : n < 2 ^ 100) : n.natAbs.log2 < 9000 := by
  have h1 : n.natAbs < 2 ^ 100 := by omega
  by_cases z : n.natAbs = 0
  · rw [z]; decide
  · exact Nat.lt_of_lt_of_le ((Nat.log2_lt z).mpr h1) (by decide)
def fPick : FSpec := fun args Q _ => ∃ t l, args = [.pool, t] ∧ t.items? = some l ∧ l ≠ [] ∧ l.length ≤ 1000 ∧ ∀ x ∈ l, Q (.p x)
theorem pick_law : ∀ args Q E, fPick args Q E → specOf N__law_pick 2 (t__law_pick fTake) args Q E := by
  rintro args Q E ⟨t, l, rfl, h1, h2, h3, h⟩
  refine ⟨rfl, ?_⟩
  show t__law_pick _ _ [some (.p .pool), some (.p t)]
  unfold t__law_pick
  have hl : 0 < l.length := by
    cases l with
    | nil => exact absurd rfl h2
    | cons a b => simp
  simp only [rRet, rSeq, rNext, rDrop, rAsg, rIfS, rIf, rSlot, rVar, rC, rOp, rUn, rCall, rCallU, fCons, fNil, rCons, rNil, tOpT, asB_bl, fAdd_int, fSub_int, fEq_int, fLen_one, TLY.slotAt, S.fz, List.set_cons_zero, List.set_cons_succ, fList_one, fTuple_one, gN]
  refine ⟨l.length, size_items h1, l.length, rfl, by omega, log_small (by omega) (by omega), fun d d0 d1 => ?_⟩
  obtain ⟨k, rfl⟩ : ∃ k : Nat, d = k := ⟨d.toNat, by omega⟩
  have hk : k < l.length := by omega
  exact ⟨l[k], by rw [at_items h1]; exact atI_n (List.getElem?_eq_getElem hk), h _ (List.getElem_mem hk)⟩
def fGiven : FSpec := fun args Q _ => ∃ t l, args = [.pool, t] ∧ t.items? = some l ∧ Q (.l1 l) ∧ Q (.p (.tup l))
theorem given_law : ∀ args Q E, fGiven args Q E → specOf N__law_given 2 (t__law_given fTake) args Q E := by
  rintro args Q E ⟨t, l, rfl, h1, h2, h3⟩
  refine ⟨rfl, ?_⟩
  show t__law_given _ _ [some (.p .pool), some (.p t)]
  unfold t__law_given
  simp only [rRet, rSeq, rNext, rDrop, rAsg, rIfS, rIf, rSlot, rVar, rC, rOp, rUn, rCall, rCallU, fCons, fNil, rCons, rNil, tOpT, asB_bl, fAdd_int, fSub_int, fEq_int, fLen_one, TLY.slotAt, S.fz, List.set_cons_zero, List.set_cons_succ, fList_one, fTuple_one, gN]
  refine ⟨2, rfl, by decide, by decide, fun d d0 d1 => ?_⟩
  simp only [rRet, rSeq, rNext, rDrop, rAsg, rIfS, rIf, rSlot, rVar, rC, rOp, rUn, rCall, rCallU, fCons, fNil, rCons, rNil, tOpT, asB_bl, fAdd_int, fSub_int, fEq_int, fLen_one, TLY.slotAt, S.fz, List.set_cons_zero, List.set_cons_succ, fList_one, fTuple_one, gN]
  by_cases z : d = 0
  · rw [if_pos (decide_eq_true z)]
    exact ⟨l, seq_items h1, h2⟩
  · rw [if_neg (by simpa using z)]
    exact ⟨l, seq_items h1, h3⟩
def fBelow : FSpec := fun args Q _ => ∃ m : Int, args = [.pool, .int m] ∧ 0 < m ∧ ∀ d : Int, 0 ≤ d → d < m → Q (.p (.int d))
theorem below_law : ∀ args Q E, fBelow args Q E → specOf N__law_below 2 (t__law_below fTake) args Q E := by
  rintro args Q E ⟨m, rfl, hm, h⟩
  refine ⟨rfl, ?_⟩
  show t__law_below _ _ [some (.p .pool), some (.p (.int m)), none, none]
  unfold t__law_below
  refine asg_seq (s := .p (.int 0)) ev_c ?_
  refine for_seq (l := TLY.upTo 0 5) (fun Q E q => ⟨⟨by decide, by decide⟩, q⟩) (fun i e => ∃ z x, e = [some (.p .pool), some (.p (.int m)), some (.p (.int z)), x]) ⟨0, none, rfl⟩ ?_ ?_
  · rintro i x e K hx ⟨z, y, rfl⟩ hK
    refine gN_mk ?_
    simp only [rRet, rSeq, rNext, rDrop, rAsg, rIfS, rIf, rSlot, rVar, rC, rOp, rUn, rCall, rCallU, fCons, fNil, rCons, rNil, tOpT, asB_bl, fAdd_int, fSub_int, fEq_int, fLen_one, TLY.slotAt, S.fz, List.set_cons_zero, List.set_cons_succ, fList_one, fTuple_one, gN]
    refine ⟨⟨by decide, by decide, by decide⟩, .inl (.inr ⟨by decide, by decide⟩), ⟨by decide, by decide, by decide⟩, _, rfl, by decide, by decide, fun d d0 d1 => ?_⟩
    simp only [rRet, rSeq, rNext, rDrop, rAsg, rIfS, rIf, rSlot, rVar, rC, rOp, rUn, rCall, rCallU, fCons, fNil, rCons, rNil, tOpT, asB_bl, fAdd_int, fSub_int, fEq_int, fLen_one, TLY.slotAt, S.fz, List.set_cons_zero, List.set_cons_succ, fList_one, fTuple_one, gN]
    exact hK _ ⟨_, _, rfl⟩
  · rintro e ⟨z, x, rfl⟩
    simp only [rRet, rSeq, rNext, rDrop, rAsg, rIfS, rIf, rSlot, rVar, rC, rOp, rUn, rCall, rCallU, fCons, fNil, rCons, rNil, tOpT, asB_bl, fAdd_int, fSub_int, fEq_int, fLen_one, TLY.slotAt, S.fz, List.set_cons_zero, List.set_cons_succ, fList_one, fTuple_one, gN]
    exact ⟨by simpa using hm, h _ (Int.emod_nonneg _ (by omega)) (Int.emod_lt_of_pos _ hm)⟩
end K36

namespace K36
open PySem PySem.Spec PyProof.Rows L2 TLY
/-! ### the mathematics of hives -/
def HvF (n : Nat) (f : Nat × Nat → Int) : Prop := f (0, 0) = 0 ∧ Ineq n f
theorem take_sum_succ {l : List Int} {k : Nat} (h : k < l.length) : (l.take (k + 1)).sum = (l.take k).sum + l[k] := by
  rw [List.take_succ_eq_append_getElem h, List.sum_append]
  simp
theorem concave {l : List Int} (hp : l.Pairwise (· ≥ ·)) {k : Nat} (h : k + 2 ≤ l.length) : (l.take k).sum + (l.take (k + 2)).sum ≤ (l.take (k + 1)).sum + (l.take (k + 1)).sum := by
  have e1 := take_sum_succ (l := l) (k := k) (by omega)
  have e2 := take_sum_succ (l := l) (k := k + 1) (by omega)
  have e3 : l[k + 1] ≤ l[k] := List.pairwise_iff_getElem.mp hp k (k + 1) (by omega) (by omega) (by omega)
  have e4 : k + 2 = k + 1 + 1 := rfl
  rw [e4]
  omega
theorem straight_hv {a b : List Int} {n : Nat} (ha : a.Pairwise (· ≥ ·)) (la : a.length = n) (hb : b.Pairwise (· ≥ ·)) (lb : b.length = n) : HvF n (straight a b) := by
  refine ⟨by simp [straight], fun p q r s h => ?_⟩
  cases h with
  | a i j h =>
    have := concave ha (k := i + j) (by omega)
    have e1 : i + 1 + j = i + j + 1 := by omega
    have e2 : i + (j + 1) = i + j + 1 := by omega
    have e3 : i + 1 + (j + 1) = i + j + 2 := by omega
    simp only [straight, e1, e2, e3]
    omega
  | b i j h =>
    have e1 : i + 1 + j = i + j + 1 := by omega
    have e2 : i + (j + 1) = i + j + 1 := by omega
    have e3 : i + 1 + (j + 1) = i + j + 2 := by omega
    have e4 : i + 2 + j = i + j + 2 := by omega
    simp only [straight, e1, e2, e3, e4]
    omega
  | c i j h =>
    have := concave hb (k := j) (by omega)
    have e1 : i + 1 + j = i + j + 1 := by omega
    have e2 : i + (j + 1) = i + j + 1 := by omega
    have e3 : i + 1 + (j + 1) = i + j + 2 := by omega
    have e4 : i + (j + 2) = i + j + 2 := by omega
    simp only [straight, e1, e2, e3, e4]
    omega
theorem turn_hv {n : Nat} {f : Nat × Nat → Int} (h : HvF n f) : HvF n (turnF n f) := by
  refine ⟨by simp [turnF], fun p q r s hd => ?_⟩
  cases hd with
  | a i j hij =>
    obtain ⟨k, rfl⟩ : ∃ k, n = i + j + 2 + k := ⟨n - (i + j + 2), by omega⟩
    have := h.2 _ _ _ _ (Dm.b k i (by omega))
    have e1 : i + j + 2 + k - (i + 1) - j = k + 1 := by omega
    have e2 : i + j + 2 + k - i - (j + 1) = k + 1 := by omega
    have e3 : i + j + 2 + k - i - j = k + 2 := by omega
    have e4 : i + j + 2 + k - (i + 1) - (j + 1) = k := by omega
    simp only [turnF, e1, e2, e3, e4]
    omega
  | b i j hij =>
    obtain ⟨k, rfl⟩ : ∃ k, n = i + j + 2 + k := ⟨n - (i + j + 2), by omega⟩
    have := h.2 _ _ _ _ (Dm.c k i (by omega))
    have e1 : i + j + 2 + k - (i + 1) - j = k + 1 := by omega
    have e2 : i + j + 2 + k - i - (j + 1) = k + 1 := by omega
    have e3 : i + j + 2 + k - (i + 2) - j = k := by omega
    have e4 : i + j + 2 + k - (i + 1) - (j + 1) = k := by omega
    simp only [turnF, e1, e2, e3, e4]
    omega
  | c i j hij =>
    obtain ⟨k, rfl⟩ : ∃ k, n = i + j + 2 + k := ⟨n - (i + j + 2), by omega⟩
    have := h.2 _ _ _ _ (Dm.a k i (by omega))
    have e1 : i + j + 2 + k - (i + 1) - j = k + 1 := by omega
    have e2 : i + j + 2 + k - i - (j + 1) = k + 1 := by omega
    have e3 : i + j + 2 + k - i - (j + 2) = k := by omega
    have e4 : i + j + 2 + k - (i + 1) - (j + 1) = k := by omega
    simp only [turnF, e1, e2, e3, e4]
    omega
theorem sum_hv {n : Nat} {f g : Nat × Nat → Int} (hf : HvF n f) (hg : HvF n g) : HvF n (fun p => f p + g p) := by
  refine ⟨by show f (0, 0) + g (0, 0) = 0; rw [hf.1, hg.1]; rfl, fun p q r s hd => ?_⟩
  have h1 := hf.2 _ _ _ _ hd
  have h2 := hg.2 _ _ _ _ hd
  show f r + g r + (f s + g s) ≤ f p + g p + (f q + g q)
  omega
theorem HvF.congr {n : Nat} {f g : Nat × Nat → Int} (h : HvF n f) (e : ∀ p : Nat × Nat, p.1 + p.2 ≤ n → f p = g p) : HvF n g := by
  refine ⟨by rw [← e (0, 0) (by simp)]; exact h.1, fun p q r s hd => ?_⟩
  obtain ⟨w1, w2, w3, w4⟩ := hd.within
  rw [← e p w1, ← e q w2, ← e r w3, ← e s w4]
  exact h.2 _ _ _ _ hd
theorem grid_turn {n : Nat} {f : Nat × Nat → Int} : grid n (turnF n (ent (grid n f))) = grid n (turnF n f) := grid_congr fun p hp => by
  unfold turnF
  rw [grid_ent (by show n - p.1 - p.2 + p.1 ≤ n; omega), grid_ent (by simp)]
theorem turn3 {n : Nat} {f : Nat × Nat → Int} (h0 : f (0, 0) = 0) : grid n (turnF n (turnF n (turnF n f))) = grid n f := grid_congr fun p hp => by
  obtain ⟨i, j⟩ := p
  have hij : i + j ≤ n := hp
  obtain ⟨k, rfl⟩ : ∃ k, n = i + j + k := ⟨n - (i + j), by omega⟩
  have e1 : i + j + k - i - j = k := by omega
  have e2 : i + j + k - k - i = j := by omega
  have e3 : i + j + k - j - k = i := by omega
  simp only [turnF, e1, e2, e3, Nat.sub_self, Nat.sub_zero, Nat.zero_sub, h0]
  omega
theorem first_down {n : Nat} {f : Nat × Nat → Int} (h : Ineq n f) {k : Nat} (hk : k + 2 ≤ n) : f (k + 2, 0) - f (k + 1, 0) ≤ f (k + 1, 0) - f (k, 0) := by
  have h1 := h _ _ _ _ (Dm.b k 0 (by omega))
  have h2 := h _ _ _ _ (Dm.a k 0 (by omega))
  simp only [Nat.zero_add] at h1 h2
  omega
theorem third_down {n : Nat} {f : Nat × Nat → Int} (h : Ineq n f) {k : Nat} (hk : k + 2 ≤ n) : f (0, k + 2) - f (0, k + 1) ≤ f (0, k + 1) - f (0, k) := by
  have h1 := h _ _ _ _ (Dm.c 0 k (by omega))
  have h2 := h _ _ _ _ (Dm.a 0 k (by omega))
  simp only [Nat.zero_add] at h1 h2
  omega
theorem second_down {n : Nat} {f : Nat × Nat → Int} (h : Ineq n f) {k : Nat} (hk : k + 2 ≤ n) : f (n - (k + 2), k + 2) - f (n - (k + 1), k + 1) ≤ f (n - (k + 1), k + 1) - f (n - k, k) := by
  obtain ⟨i, rfl⟩ : ∃ i, n = k + 2 + i := ⟨n - (k + 2), by omega⟩
  have e1 : k + 2 + i - (k + 2) = i := by omega
  have e2 : k + 2 + i - (k + 1) = i + 1 := by omega
  have e3 : k + 2 + i - k = i + 2 := by omega
  rw [e1, e2, e3]
  have h1 := h _ _ _ _ (Dm.b i k (by omega))
  have h2 := h _ _ _ _ (Dm.c i k (by omega))
  omega
theorem down_list {n : Nat} {g : Nat → Int} (h : ∀ k, k + 1 < n → g (k + 1) ≤ g k) : ((List.range n).map g).Pairwise (· ≥ ·) := by
  have step : ∀ d i, i + d < n → g (i + d) ≤ g i := by
    intro d
    induction d with
    | zero => intro i _; exact Int.le_refl _
    | succ d ih =>
      intro i hi
      exact Int.le_trans (h (i + d) (by omega)) (ih i (by omega))
  refine List.pairwise_iff_getElem.mpr fun i j hi hj hij => ?_
  simp only [List.length_map, List.length_range] at hi hj
  simp only [List.getElem_map, List.getElem_range]
  have := step (j - i) i (by omega)
  have e : i + (j - i) = j := by omega
  rw [e] at this
  exact this
theorem first_pw {n : Nat} {f : Nat × Nat → Int} (h : Ineq n f) : (first n f).Pairwise (· ≥ ·) := down_list fun k hk => first_down h (by omega)
theorem second_pw {n : Nat} {f : Nat × Nat → Int} (h : Ineq n f) : (second n f).Pairwise (· ≥ ·) := down_list fun k hk => second_down h (by omega)
theorem third_pw {n : Nat} {f : Nat × Nat → Int} (h : Ineq n f) : (third n f).Pairwise (· ≥ ·) := down_list fun k hk => third_down h (by omega)
theorem sorted_back {ns r : List Int} (p : ns.Perm r) (h : ns.Pairwise (· ≤ ·)) (hr : r.Pairwise (· ≥ ·)) : ns.reverse = r := by
  have h2 : r.reverse.Pairwise (· ≤ ·) := List.pairwise_reverse.mpr hr
  have : ns = r.reverse := PySem.W.os_sorted_one (p.trans (List.reverse_perm r).symm) h h2
  rw [this, List.reverse_reverse]
/-- the border of a turned hive -/
theorem first_turn {n : Nat} {f : Nat × Nat → Int} : first n (turnF n f) = second n f := by
  unfold first second
  refine List.map_congr_left fun k hk => ?_
  simp only [turnF, Nat.sub_zero]
  omega
theorem map_range_rev {n : Nat} {g : Nat → Int} : ((List.range n).map g).reverse = (List.range n).map fun k => g (n - 1 - k) := by
  refine List.ext_getElem (by simp) fun i h1 h2 => ?_
  simp
theorem second_turn {n : Nat} {f : Nat × Nat → Int} : second n (turnF n f) = (third n f).reverse.map fun z => -z := by
  unfold second third
  rw [map_range_rev, List.map_map]
  refine List.map_congr_left fun k hk => ?_
  have hk : k < n := by simpa using hk
  simp only [turnF, Function.comp]
  have e1 : n - (n - (k + 1)) - (k + 1) = 0 := by omega
  have e2 : n - (n - k) - k = 0 := by omega
  have e3 : n - 1 - k + 1 = n - k := by omega
  have e4 : n - 1 - k = n - (k + 1) := by omega
  rw [e1, e2, e3, e4]
  omega
theorem third_turn {n : Nat} {f : Nat × Nat → Int} : third n (turnF n f) = (first n f).reverse.map fun z => -z := by
  unfold third first
  rw [map_range_rev, List.map_map]
  refine List.map_congr_left fun k hk => ?_
  have hk : k < n := by simpa using hk
  simp only [turnF, Function.comp, Nat.sub_zero]
  have e3 : n - 1 - k + 1 = n - k := by omega
  have e4 : n - 1 - k = n - (k + 1) := by omega
  rw [e3, e4]
  omega
end K36

namespace K36
open PySem PySem.Spec PyProof.Rows L2 TLY
def fFall : FSpec := fun args Q _ => ∃ (n : Nat) (size : Int), args = [.pool, .int n, .int size] ∧ n ≤ 900 ∧ 0 ≤ size ∧ ∀ ns : List Int, ns.length = n → ns.Pairwise (· ≥ ·) → Q (.l1 (ns.map .int))
theorem all2_ints {l rs : List T} (h : All2 (fun _ r => ∃ z : Int, r = T.int z) l rs) : ∃ zs : List Int, rs = zs.map T.int ∧ zs.length = l.length := by
  induction h with
  | nil => exact ⟨[], rfl, rfl⟩
  | cons h _ ih =>
    obtain ⟨z, rfl⟩ := h
    obtain ⟨zs, rfl, e⟩ := ih
    exact ⟨z :: zs, rfl, by simp [e]⟩
theorem fall_law : ∀ args Q E, fFall args Q E → specOf N__law_fall 3 (t__law_fall fBelow) args Q E := by
  rintro args Q E ⟨n, size, rfl, hn, hs, h⟩
  refine ⟨rfl, ?_⟩
  show t__law_fall _ _ [some (.p .pool), some (.p (.int n)), some (.p (.int size)), none, none]
  unfold t__law_fall
  refine asg_nd (lc_nd (iR1_int n (ev_slot rfl) (by omega) ?_))
  refine lcW_any (P := fun _ r => ∃ z : Int, r = T.int z) (fun x hx Q' hQ => ?_) (by rw [upTo_length]; exact big (by simpa using (by omega : n ≤ 1000))) fun rs hrs => ?_
  · refine gN_mk ?_
    simp only [rRet, rSeq, rNext, rDrop, rAsg, rIfS, rIf, rSlot, rVar, rC, rOp, rUn, rCall, rCallU, fCons, fNil, rCons, rNil, tOpT, asB_bl, fAdd_int, fSub_int, fEq_int, fLen_one, TLY.slotAt, S.fz, List.set_cons_zero, List.set_cons_succ, fList_one, fTuple_one, gN, wipeE]
    refine ⟨.inl (.inl ⟨by decide, by decide⟩), 2 * size + 1, rfl, by omega, fun d d0 d1 => ?_⟩
    simp only [rRet, rSeq, rNext, rDrop, rAsg, rIfS, rIf, rSlot, rVar, rC, rOp, rUn, rCall, rCallU, fCons, fNil, rCons, rNil, tOpT, asB_bl, fAdd_int, fSub_int, fEq_int, fLen_one, TLY.slotAt, S.fz, List.set_cons_zero, List.set_cons_succ, fList_one, fTuple_one, gN]
    exact hQ _ ⟨_, rfl⟩
  · obtain ⟨zs, rfl, hl⟩ := all2_ints hrs
    rw [upTo_length] at hl
    simp only [List.nil_append, rRet, rSeq, rNext, rDrop, rAsg, rIfS, rIf, rSlot, rVar, rC, rOp, rUn, rCall, rCallU, fCons, fNil, rCons, rNil, tOpT, asB_bl, fAdd_int, fSub_int, fEq_int, fLen_one, TLY.slotAt, S.fz, List.set_cons_zero, List.set_cons_succ, fList_one, fTuple_one, gN]
    refine ⟨zs, rfl, fun ns' hp hs' => ⟨ns'.map .int, rfl, ?_⟩⟩
    rw [← List.map_reverse]
    exact h _ (by rw [List.length_reverse, hp.length_eq, hl]) (List.pairwise_reverse.mpr hs')
/-- the same rows, each a list or a tuple -/
abbrev LikeR : T → T → Prop := fun r r' => r'.items? = r.items? ∧ r'.items?.isSome = true
def fHanded : FSpec := fun args Q _ => ∃ t l, args = [.pool, t] ∧ t.items? = some l ∧ l.length ≤ 1000 ∧ (∀ r ∈ l, r.items?.isSome = true) ∧ ∀ rs, All2 LikeR l rs → Q (.l1 rs) ∧ Q (.p (.tup rs))
theorem handed_law : ∀ args Q E, fHanded args Q E → specOf N__law_handed 2 (t__law_handed fGiven) args Q E := by
  rintro args Q E ⟨t, l, rfl, h1, h2, h3, h⟩
  refine ⟨rfl, ?_⟩
  show t__law_handed _ _ [some (.p .pool), some (.p t), none]
  unfold t__law_handed
  simp only [rRet, rSeq, rNext, rDrop, rAsg, rIfS, rIf, rSlot, rVar, rC, rOp, rUn, rCall, rCallU, fCons, fNil, rCons, rNil, tOpT, asB_bl, fAdd_int, fSub_int, fEq_int, fLen_one, TLY.slotAt, S.fz, List.set_cons_zero, List.set_cons_succ, fList_one, fTuple_one, gN, rLc, iSeq]
  refine ⟨l, h1, ?_⟩
  refine lcW_any (P := LikeR) (fun x hx Q' hQ => ?_) (by simpa using big h2) fun rs hrs => ?_
  · refine gN_mk ?_
    simp only [rRet, rSeq, rNext, rDrop, rAsg, rIfS, rIf, rSlot, rVar, rC, rOp, rUn, rCall, rCallU, fCons, fNil, rCons, rNil, tOpT, asB_bl, fAdd_int, fSub_int, fEq_int, fLen_one, TLY.slotAt, S.fz, List.set_cons_zero, List.set_cons_succ, fList_one, fTuple_one, gN, wipeE]
    cases hx' : x.items? with
    | none => have := h3 x hx; rw [hx'] at this; cases this
    | some xs => exact ⟨x, xs, rfl, hx', hQ _ ⟨by rw [hx']; rfl, rfl⟩, hQ _ ⟨by rw [hx']; rfl, rfl⟩⟩
  · simp only [List.nil_append]
    exact ⟨.lst rs, rs, rfl, rfl, (h rs hrs).1, (h rs hrs).2⟩
def fSome : FSpec := fun args Q _ => ∃ (n : Nat) (size : Int), args = [.pool, .int n, .int size] ∧ n ≤ 900 ∧ 0 ≤ size ∧ ∀ f, HvF n f → Q (.p (grid n f))
theorem some_law : ∀ args Q E, fSome args Q E → specOf N__law_some_hive 3 (t__law_some_hive fFall fSumH fStraight fTake fLTurn) args Q E := by
  rintro args Q E ⟨n, size, rfl, hn, hs, h⟩
  refine ⟨rfl, ?_⟩
  show t__law_some_hive _ _ _ _ _ _ [some (.p .pool), some (.p (.int n)), some (.p (.int size)), none, none, none, none]
  unfold t__law_some_hive
  refine asg_seq (s := .p .non) ev_c ?_
  refine for_nd ?_
  unfold iR1
  simp only [rRet, rSeq, rNext, rDrop, rAsg, rIfS, rIf, rSlot, rVar, rC, rOp, rUn, rCall, rCallU, fCons, fNil, rCons, rNil, tOpT, asB_bl, fAdd_int, fSub_int, fEq_int, fLen_one, TLY.slotAt, S.fz, List.set_cons_zero, List.set_cons_succ, fList_one, fTuple_one, gN]
  refine ⟨3, rfl, by decide, by decide, fun d d0 d1 => ⟨⟨by omega, by omega⟩, ?_⟩⟩
  refine forR (fun i e => ∃ fo x y z, e = [some (.p .pool), some (.p (.int n)), some (.p (.int size)), some (.p fo), x, y, z] ∧ (i = 0 → fo = .non) ∧ (0 < i → ∃ f, HvF n f ∧ fo = grid n f)) ⟨.non, none, none, none, rfl, fun _ => rfl, fun z => absurd z (by omega)⟩ ?_ ?_
  · rintro i e K hi ⟨fo, x, y, z, rfl, f0, f1⟩ hK
    refine gN_mk ?_
    show rSeq _ _ _ [some (.p .pool), some (.p (.int n)), some (.p (.int size)), some (.p fo), some (.p (.int (i : Int))), y, z]
    refine asg_nd ?_
    simp only [rRet, rSeq, rNext, rDrop, rAsg, rIfS, rIf, rSlot, rVar, rC, rOp, rUn, rCall, rCallU, fCons, fNil, rCons, rNil, tOpT, asB_bl, fAdd_int, fSub_int, fEq_int, fLen_one, TLY.slotAt, S.fz, List.set_cons_zero, List.set_cons_succ, fList_one, fTuple_one, gN]
    refine ⟨n, size, rfl, hn, hs, fun a la pa => ?_⟩
    simp only [rRet, rSeq, rNext, rDrop, rAsg, rIfS, rIf, rSlot, rVar, rC, rOp, rUn, rCall, rCallU, fCons, fNil, rCons, rNil, tOpT, asB_bl, fAdd_int, fSub_int, fEq_int, fLen_one, TLY.slotAt, S.fz, List.set_cons_zero, List.set_cons_succ, fList_one, fTuple_one, gN]
    refine ⟨n, size, rfl, hn, hs, fun b lb pb => ?_⟩
    simp only [rRet, rSeq, rNext, rDrop, rAsg, rIfS, rIf, rSlot, rVar, rC, rOp, rUn, rCall, rCallU, fCons, fNil, rCons, rNil, tOpT, asB_bl, fAdd_int, fSub_int, fEq_int, fLen_one, TLY.slotAt, S.fz, List.set_cons_zero, List.set_cons_succ, fList_one, fTuple_one, gN]
    refine ⟨a, b, n, rfl, la, by omega, ?_⟩
    have hv := straight_hv pa la pb lb
    generalize straight a b = g at hv
    simp only [rFor, rRet, rSeq, rNext, rDrop, rAsg, rIfS, rIf, rSlot, rVar, rC, rOp, rUn, rCall, rCallU, fCons, fNil, rCons, rNil, tOpT, asB_bl, fAdd_int, fSub_int, fEq_int, fLen_one, TLY.slotAt, S.fz, List.set_cons_zero, List.set_cons_succ, fList_one, fTuple_one, gN]
    refine ⟨3, rfl, by decide, by decide, fun d d0 d1 => ⟨⟨by omega, by omega⟩, ?_⟩⟩
    refine forR (fun _ e => ∃ f z, HvF n f ∧ e = [some (.p .pool), some (.p (.int n)), some (.p (.int size)), some (.p fo), some (.p (.int (i : Int))), some (.p (grid n f)), z]) ⟨g, z, hv, rfl⟩ ?_ ?_
    · rintro k e K2 hk ⟨f, z, hf, rfl⟩ hK2
      refine gN_mk ?_
      simp only [rRet, rSeq, rNext, rDrop, rAsg, rIfS, rIf, rSlot, rVar, rC, rOp, rUn, rCall, rCallU, fCons, fNil, rCons, rNil, tOpT, asB_bl, fAdd_int, fSub_int, fEq_int, fLen_one, TLY.slotAt, S.fz, List.set_cons_zero, List.set_cons_succ, fList_one, fTuple_one, gN, rFrz]
      exact ⟨grid n f, n, rfl, grid_shape, by omega, hK2 _ ⟨turnF n f, _, turn_hv hf, by rw [grid_turn]⟩⟩
    · rintro e ⟨f, z, hf, rfl⟩
      simp only [rRet, rSeq, rNext, rDrop, rAsg, rIfS, rIf, rSlot, rVar, rC, rOp, rUn, rCall, rCallU, fCons, fNil, rCons, rNil, tOpT, asB_bl, fAdd_int, fSub_int, fEq_int, fLen_one, TLY.slotAt, S.fz, List.set_cons_zero, List.set_cons_succ, fList_one, fTuple_one, gN, rFrz, fIsN_non]
      cases i with
      | zero =>
        obtain rfl := f0 rfl
        show (if S.isNon (.p .non) = true then _ else _)
        rw [if_pos (show S.isNon (.p .non) = true from rfl)]
        exact hK _ ⟨_, _, _, _, rfl, fun z => absurd z (by omega), fun _ => ⟨f, hf, rfl⟩⟩
      | succ i =>
        obtain ⟨f2, hf2, rfl⟩ := f1 (by omega)
        show (if S.isNon (.p (grid n f2)) = true then _ else _)
        rw [if_neg (show ¬ S.isNon (.p (grid n f2)) = true from fun z => Bool.noConfusion z)]
        refine ⟨grid n f2, grid n f, n, rfl, grid_shape, grid_shape, by omega, hK _ ⟨_, _, _, _, rfl, fun z => absurd z (by omega), fun _ => ⟨fun p => f2 p + f p, sum_hv hf2 hf, ?_⟩⟩⟩
        exact grid_congr fun p hp => by rw [grid_ent hp, grid_ent hp]
  · rintro e ⟨fo, x, y, z, rfl, f0, f1⟩
    obtain ⟨f, hf, rfl⟩ := f1 (by omega)
    exact h f hf
def fRaised : FSpec := fun args Q _ => ∃ s t, args = [.str s, t] ∧ Clean t ∧ (IsHive t → Q (.p .non)) ∧ (¬ IsHive t → Q (.p (.bl true)))
theorem raised_law {K : PySem.W.Frag} {cS cB : Addr} (hx : PySem.W.exmOne K (.ref cB) (.ref cS) = some true) (hi : ExcC K cB) : ∀ args Q E, fRaised args Q E → specOf N__law_raised 2 (t__law_raised K cS cB (fBord cB) (fTurn cB)) args Q E := by
  rintro args Q E ⟨s, t, rfl, hc, h1, h2⟩
  refine ⟨rfl, ?_⟩
  show t__law_raised _ _ _ _ _ _ [some (.p (.str s)), some (.p t), none]
  unfold t__law_raised
  show rTry1 _ _ _ _ _ _ _
  refine ⟨by simp, ?_⟩
  simp only [rRet, rSeq, rNext, rDrop, rAsg, rIfS, rIf, rSlot, rVar, rC, rOp, rUn, rCall, rCallU, fCons, fNil, rCons, rNil, tOpT, asB_bl, fAdd_int, fSub_int, fEq_int, fLen_one, TLY.slotAt, S.fz, List.set_cons_zero, List.set_cons_succ, fList_one, fTuple_one, gN, fEq_str]
  split
  · exact ⟨t, rfl, hc, fun n n6 sh hh => h1 hh, fun hn => ⟨true, hx, fun _ => ⟨.bl true, ⟨rfl, hi, true, kit_self, rfl⟩, fun _ => h2 hn⟩, fun z => Bool.noConfusion z⟩⟩
  · exact ⟨t, rfl, hc, fun n n1 n6 sh hh => h1 hh, fun hn => ⟨true, hx, fun _ => ⟨.bl true, ⟨rfl, hi, true, kit_self, rfl⟩, fun _ => h2 hn⟩, fun z => Bool.noConfusion z⟩⟩
end K36

namespace K36
open PySem PySem.Spec PyProof.Rows L2 TLY
/-! ### _law_same at one tree -/
def Plain : Nat → T → Prop
  | _, .non => True
  | _, .bl _ => True
  | _, .int _ => True
  | d + 1, .tup l => l.length ≤ 1000 ∧ ∀ x ∈ l, Plain d x
  | d + 1, .lst l => l.length ≤ 1000 ∧ ∀ x ∈ l, Plain d x
  | _, _ => False
def fSame (d : Nat) : FSpec := fun args Q _ => ∃ t, args = [t, t] ∧ Plain d t ∧ Q (.p (.bl true))
theorem ev_isi {t : T} {e : Sl} {i : Nat} {ms : List String} {b : Bool} (hs : TLY.slotAt e i = some (.p t)) (hc : t.cls?.isSome = true) (hb : (S.p t).isi ms = b) : EvS (rIsI ms (rSlot i)) e (.p (.bl b)) := by
  intro Q E h
  unfold rIsI rSlot
  rw [hs]
  exact ⟨hc, by rw [hb]; exact h⟩
theorem same_all {d : Nat} {sp : FSpec} {t : T} {l : List T} {e : Sl} (hi : t.items? = some l) (hl : l.length ≤ 1000) (hp : ∀ x ∈ l, Plain d x) (hsp : ∀ args Q E, fSame d args Q E → sp args Q E) (he : e = [some (.p t), some (.p t), none]) :
    EvS (rCall fAll (rCons (rLc (iR1 (rCall fLen (rCons (rSlot 1) rNil))) (gN 2) rYes (rCallU sp (fCons (rOp fIx (rSlot 0) (rSlot 2)) (fCons (rOp fIx (rSlot 1) (rSlot 2)) fNil))) [2]) rNil)) e (.p (.bl true)) := by
  subst he
  intro Q E q
  unfold rCall rCons rNil
  refine lc_nd (iR1_int l.length (ev_len rfl hi) (by omega) ?_)
  refine lcW_upTo (lo := 0) (fun _ => .p (.bl true)) (fun j hj Q' hq => ?_) (big hl) ?_
  · have e0 : (0 : Int) + (j : Int) = (j : Int) := by omega
    rw [e0]
    have ix : ∀ k, k < 2 → EvS (rOp fIx (rSlot k) (rSlot 2)) [some (.p t), some (.p t), some (.p (.int (j : Int)))] (.p l[j]) := fun k hk => ev_op (x := .p t) (y := .p (.int j)) (ev_slot (by rcases k with _ | _ | k; rfl; rfl; omega)) (ev_slot rfl) (fun Q h => ⟨_, by rw [at_items hi]; exact atI_n (List.getElem?_eq_getElem hj), h⟩)
    exact ev_call2 (ix 0 (by omega)) (ix 1 (by omega)) (fun Q E q => hsp _ _ _ ⟨_, rfl, hp _ (List.getElem_mem hj), q⟩) _ _ hq
  · refine ⟨List.replicate l.length true, ?_, ?_⟩
    · show some ((List.range l.length).map fun _ => T.bl true) = _
      congr 1
      refine List.ext_getElem (by simp) fun i h1 h2 => by simp
    · have : (List.replicate l.length true).all id = true := by simp
      rw [this]; exact q
theorem same_law {d : Nat} {sp : FSpec} (hsp : ∀ d', d = d' + 1 → ∀ args Q E, fSame d' args Q E → sp args Q E) : ∀ args Q E, fSame d args Q E → specOf N__law_same 2 (t__law_same fNum sp) args Q E := by
  rintro args Q E ⟨t, rfl, hp, h⟩
  refine ⟨rfl, ?_⟩
  show t__law_same _ _ _ [some (.p t), some (.p t), none]
  unfold t__law_same
  cases t with
  | tup l =>
    cases d with
    | zero => exact hp.elim
    | succ d =>
      refine if_seq (b := true) (ev_tru (ev_isi (t := .tup l) rfl rfl rfl)) (fun _ => ?_) (fun z => Bool.noConfusion z)
      refine if_seq (b := false || !decide ((l.length : Int) = l.length)) (ev_or (ev_notR (ev_tru (ev_isi (t := .tup l) (b := true) rfl rfl rfl))) fun _ => ev_neI (ev_len (t := .tup l) rfl rfl) (ev_len (t := .tup l) rfl rfl)) (fun z => by simp at z) (fun _ => ?_)
      exact ret_ev (same_all (t := .tup l) rfl hp.1 hp.2 (hsp d rfl) rfl) h
  | lst l =>
    cases d with
    | zero => exact hp.elim
    | succ d =>
      refine if_seq (b := false) (ev_tru (ev_isi (t := .lst l) rfl rfl rfl)) (fun z => Bool.noConfusion z) (fun _ => ?_)
      refine if_seq (b := true) (ev_tru (ev_isi (t := .lst l) rfl rfl rfl)) (fun _ => ?_) (fun z => Bool.noConfusion z)
      refine if_seq (b := false || !decide ((l.length : Int) = l.length)) (ev_or (ev_notR (ev_tru (ev_isi (t := .lst l) (b := true) rfl rfl rfl))) fun _ => ev_neI (ev_len (t := .lst l) rfl rfl) (ev_len (t := .lst l) rfl rfl)) (fun z => by simp at z) (fun _ => ?_)
      exact ret_ev (same_all (t := .lst l) rfl hp.1 hp.2 (hsp d rfl) rfl) h
  | non =>
    refine if_seq (b := false) (ev_tru (ev_isi (t := .non) rfl rfl rfl)) (fun z => Bool.noConfusion z) (fun _ => ?_)
    refine if_seq (b := false) (ev_tru (ev_isi (t := .non) rfl rfl rfl)) (fun z => Bool.noConfusion z) (fun _ => ?_)
    refine if_seq (b := true) (fun Q E h => h) (fun _ => ?_) (fun z => Bool.noConfusion z)
    exact h
  | bl b =>
    refine if_seq (b := false) (ev_tru (ev_isi (t := .bl b) rfl rfl rfl)) (fun z => Bool.noConfusion z) (fun _ => ?_)
    refine if_seq (b := false) (ev_tru (ev_isi (t := .bl b) rfl rfl rfl)) (fun z => Bool.noConfusion z) (fun _ => ?_)
    refine if_seq (b := false) (fun Q E h => h) (fun z => Bool.noConfusion z) (fun _ => ?_)
    refine if_seq (b := true) (ev_tru (ev_isi (t := .bl b) rfl rfl rfl)) (fun _ => ?_) (fun z => Bool.noConfusion z)
    refine ret_ev (s := .p (.bl true)) (fun Q E q => ?_) h
    unfold rAnd
    refine ev_isi (t := .bl b) (b := true) rfl rfl rfl _ _ ⟨true, rfl, ?_⟩
    show Q (.p (.bl (decide (b = b))))
    rw [decide_eq_true rfl]
    exact q
  | int z =>
    refine if_seq (b := false) (ev_tru (ev_isi (t := .int z) rfl rfl rfl)) (fun z => Bool.noConfusion z) (fun _ => ?_)
    refine if_seq (b := false) (ev_tru (ev_isi (t := .int z) rfl rfl rfl)) (fun z => Bool.noConfusion z) (fun _ => ?_)
    refine if_seq (b := false) (fun Q E h => h) (fun z => Bool.noConfusion z) (fun _ => ?_)
    refine if_seq (b := false) (ev_tru (ev_isi (t := .int z) rfl rfl rfl)) (fun z => Bool.noConfusion z) (fun _ => ?_)
    refine if_seq (b := false) (ev_tru (ev_isi (t := .int z) rfl rfl rfl)) (fun z => Bool.noConfusion z) (fun _ => ?_)
    refine ret_ev (s := .p (.bl true)) (fun Q E q => ?_) h
    unfold rAnd
    refine ev_call1 (s := .p (.int z)) (r := .p (.bl true)) (ev_var rfl) (fun Q E q => ⟨_, rfl, rfl, q⟩) _ _ ⟨true, rfl, ?_⟩
    show Q (.p (.bl (decide (z = z))))
    rw [decide_eq_true rfl]
    exact q
  | str x => cases d <;> exact hp.elim
  | dct => cases d <;> exact hp.elim
  | ty n => cases d <;> exact hp.elim
  | pool => cases d <;> exact hp.elim
theorem plain_ints {l : List Int} {d : Nat} (h : l.length ≤ 1000) : Plain (d + 1) (.tup (l.map .int)) := ⟨by simpa using h, fun x hx => by
  obtain ⟨z, _, rfl⟩ := List.mem_map.mp hx
  cases d <;> trivial⟩
theorem plain_grid {n : Nat} {f : Nat × Nat → Int} (h : n ≤ 900) : Plain 2 (grid n f) := ⟨by simp; omega, fun x hx => by
  obtain ⟨j, _, rfl⟩ := List.mem_map.mp hx
  refine ⟨by simp; omega, fun y hy => ?_⟩
  obtain ⟨z, _, rfl⟩ := List.mem_map.mp hy
  trivial⟩
theorem plain_bord {n : Nat} {f : Nat × Nat → Int} (h : n ≤ 900) : Plain 2 (bordT n f) := ⟨by simp, fun x hx => by
  simp only [List.mem_cons, List.not_mem_nil, or_false] at hx
  rcases hx with rfl | rfl | rfl
  · exact plain_ints (by simp [first]; omega)
  · exact plain_ints (by simp [second]; omega)
  · exact plain_ints (by simp [third]; omega)⟩
end K36

namespace K36
open PySem PySem.Spec PyProof.Rows L2 TLY
/-! ### spoilt hives -/
def RowLike (r : T) : Prop := r.cls?.isSome = true ∧ ∀ xs, r.items? = some xs → ∀ x ∈ xs, x.cls?.isSome = true
theorem clean_mk {t : T} (h : t.cls?.isSome = true) (h2 : ∀ l, t.items? = some l → ∀ r ∈ l, RowLike r) : Clean t := ⟨h, fun l hl r hr => (h2 l hl r hr).1, fun l hl r hr => (h2 l hl r hr).2⟩
theorem num_cls {x : T} (h : isNum x = true) : x.cls?.isSome = true := by cases x <;> simp [isNum] at h <;> rfl
theorem row_like {xs : List T} (h : ∀ x ∈ xs, x.cls?.isSome = true) : RowLike (.lst xs) ∧ RowLike (.tup xs) := ⟨⟨rfl, fun ys e => by cases e; exact h⟩, ⟨rfl, fun ys e => by cases e; exact h⟩⟩
theorem clean_lst {l : List T} (h : ∀ r ∈ l, RowLike r) : Clean (.lst l) ∧ Clean (.tup l) := ⟨clean_mk rfl fun m e => by cases e; exact h, clean_mk rfl fun m e => by cases e; exact h⟩
theorem like_int {z : Int} : RowLike (.int z) := ⟨rfl, fun xs e => by cases e⟩
def EvF (t : RF) (e : Sl) (l : List T) : Prop := ∀ Q E, Q l → t e Q E
theorem evF_nil {e : Sl} : EvF fNil e [] := fun Q E h => h
theorem evF_cons {e : Sl} {ta : RE} {tr : RF} {s : S} {l : List T} (ha : EvS ta e s) (hr : EvF tr e l) : EvF (fCons ta tr) e (s.fz :: l) := fun Q E h => ha _ _ (hr _ _ h)
theorem evF_lst {e : Sl} {t : RF} {l : List T} (h : EvF t e l) (hz : l.length ≤ 1000) : EvS (rLst t) e (.l1 l) := fun Q E q => h _ _ ⟨big hz, q⟩
theorem evF_tup {e : Sl} {t : RF} {l : List T} (h : EvF t e l) (hz : l.length ≤ 1000) : EvS (rTup t) e (.p (.tup l)) := fun Q E q => h _ _ ⟨big hz, q⟩
theorem pick_nd {e : Sl} {tl : RE} {L : List T} {Q : S → Prop} {E : Ex → Prop} (h0 : TLY.slotAt e 0 = some (.p .pool)) (hl : EvS tl e (.l1 L)) (hz : L ≠ []) (hz2 : L.length ≤ 1000) (q : ∀ x ∈ L, Q (.p x)) : rCallU fPick (fCons (rVar 0) (fCons tl fNil)) e Q E := by
  unfold rCallU fCons
  refine ev_var h0 _ _ (hl _ _ ⟨_, L, rfl, rfl, hz, hz2, q⟩)
theorem lcRW_map {i : Nat} {te : RE} {e : Sl} {k : List (List T) → Prop} (f : T → List T) : ∀ {l : List T} {acc : List (List T)}, (∀ x ∈ l, ∀ Q : S → Prop, Q (.l1 (f x)) → te (e.set i (some (.p x))) Q (fun _ => False)) → acc.length + l.length ≤ sizeLine → k (acc ++ l.map f) → lcRW (gN i) rYes te e k l acc
  | [], acc, h, hz, hk => by simpa [lcRW] using hk
  | x :: l, acc, h, hz, hk => by
    have e1 : acc ++ (x :: l).map f = (acc ++ [f x]) ++ l.map f := by simp
    rw [e1] at hk
    simp only [List.length_cons] at hz
    refine h x List.mem_cons_self _ ⟨by omega, _, rfl, lcRW_map f (fun y hy => h y (List.mem_cons_of_mem _ hy)) ?_ hk⟩
    simp only [List.length_append, List.length_cons, List.length_nil]
    omega
structure RowsOk (n : Nat) (R : List (List T)) : Prop where
  len : R.length = n + 1
  row : ∀ r ∈ R, 1 ≤ r.length ∧ r.length ≤ 7 ∧ ∀ x ∈ r, isNum x = true
def Stands (s : S) : Prop := ∃ L, s.fz = .lst L ∧ L.length ≤ 1000 ∧ ∀ r ∈ L, RowLike r
theorem rows_stand {n : Nat} {R : List (List T)} (hn : n ≤ 6) (h : ∀ r ∈ R, ∀ x ∈ r, x.cls?.isSome = true) (hl : R.length = n + 1) : Stands (.l2 R) := ⟨R.map .lst, rfl, by simp; omega, fun r hr => by
  obtain ⟨xs, hx, rfl⟩ := List.mem_map.mp hr
  exact (row_like (h xs hx)).1⟩
def fSpoilt : FSpec := fun args Q _ => ∃ (n : Nat) (f : Nat × Nat → Int), args = [.pool, grid n f] ∧ 1 ≤ n ∧ n ≤ 6 ∧ ∀ s : S, Clean s.fz → Q s
/-- the last row of _law_spoilt -/
theorem spoilt_end {D : EndsR} {h x3 x4 x5 : Option S} {s : S} (hs : Stands s) (hd : ∀ s e, Clean s.fz → D.rt s e) :
    rFrz 2 (rRet (rCallU fGiven (fCons (rVar 0) (fCons (rLc (iSeq (rVar 2)) (gN 6) rYes (rIf (tTru (rIsI ["list"] (rSlot 6))) (rCallU fGiven (fCons (rVar 0) (fCons (rVar 6) fNil))) (rVar 6)) [6]) fNil)))) D [some (.p .pool), h, some s, x3, x4, x5, none, none] := by
  obtain ⟨L, e, hl, hr⟩ := hs
  refine frz_nd rfl ?_
  rw [e]
  refine ret_nd ?_
  unfold rCallU fCons
  refine ev_var rfl _ _ (lc_nd (ev_var (t := .lst L) rfl _ _ ⟨L, rfl, ?_⟩))
  refine lcW_any (P := fun _ r => RowLike r) (fun x hx Q' hQ => ?_) (by simpa using big hl) fun rs hrs => ?_
  · refine gN_mk ?_
    have lk := hr x hx
    refine if_nd ?_
    refine ev_tru (ev_isi (i := 6) (t := x) rfl lk.1 rfl) _ _ ?_
    cases hb : (S.p x).isi ["list"] with
    | false =>
      simp only [Bool.false_eq_true, if_false]
      exact ev_var rfl _ _ (hQ _ lk)
    | true =>
      simp only [if_true]
      obtain ⟨xs, rfl⟩ : ∃ xs, x = .lst xs := by
        cases x <;> first | exact ⟨_, rfl⟩ | exact absurd hb (by decide) | (exact absurd hb (by show ¬ S.isi _ _ = true; exact fun z => Bool.noConfusion z))
      refine ev_var rfl _ _ (ev_var rfl _ _ ⟨.lst xs, xs, rfl, rfl, ?_, ?_⟩)
      · exact hQ _ (row_like (lk.2 xs rfl)).1
      · exact hQ _ (row_like (lk.2 xs rfl)).2
  · simp only [List.nil_append]
    have all : ∀ r ∈ rs, RowLike r := fun r hr' => by
      obtain ⟨m, hm, rfl⟩ := List.getElem_of_mem hr'
      obtain ⟨x, _, h2⟩ := hrs.getR (i := m) (List.getElem?_eq_getElem hm)
      exact h2
    refine ⟨.lst rs, rs, rfl, rfl, ?_, ?_⟩
    · exact hd _ _ (clean_lst all).1
    · exact hd _ _ (clean_lst all).2
end K36

namespace K36
open PySem PySem.Spec PyProof.Rows L2 TLY
theorem atI_sub {l : List T} {lo hi : Option Int} : ∀ x ∈ cut l lo hi, x ∈ l := fun x hx => List.mem_of_mem_drop (List.mem_of_mem_take hx)
theorem cut_len {l : List T} {lo hi : Option Int} : (cut l lo hi).length ≤ l.length := by
  unfold cut
  rw [List.length_take, List.length_drop]
  omega
def p9 (z : Int) (k : Int) : Prop := z = k
theorem set_mem {α : Type} {l : List α} {j : Nat} {x y : α} (h : y ∈ l.set j x) : y ∈ l ∨ y = x := by
  rcases List.mem_or_eq_of_mem_set h with h | h
  · exact .inl h
  · exact .inr h
theorem take_nd {e : Sl} {tn : RE} {m : Int} {Q : S → Prop} {E : Ex → Prop} (h0 : TLY.slotAt e 0 = some (.p .pool)) (hn : EvI tn e m) (hm : 0 < m) (hz : m.natAbs.log2 < 9000) (q : ∀ d : Int, 0 ≤ d → d < m → Q (.p (.int d))) : rCallU fTake (fCons (rVar 0) (fCons tn fNil)) e Q E := by
  unfold rCallU fCons
  exact ev_var h0 _ _ (hn _ _ ⟨m, rfl, hm, hz, q⟩)
theorem ev_sl1 {ta : RE} {e : Sl} {l : List T} {s : S} {tl th : RO} {lo hi : Option Int} (ha : EvS ta e s) (hs : ∀ Q : S → Prop, Q (.l1 (cut l lo hi)) → fSl s lo hi Q) (hl : ∀ Q E, Q lo → tl e Q E) (hh : ∀ Q E, Q hi → th e Q E) : EvS (rSl ta tl th) e (.l1 (cut l lo hi)) := fun Q E q => ha _ _ (hl _ _ (hh _ _ (hs _ q)))
theorem ev_un {f : S → (S → Prop) → Prop} {ta : RE} {e : Sl} {s r : S} (ha : EvS ta e s) (hf : ∀ Q : S → Prop, Q r → f s Q) : EvS (rUn f ta) e r := fun Q E q => ha _ _ (hf _ q)
theorem fAdd_lst {a b : List T} {Q : S → Prop} (hz : a.length + b.length ≤ 1000) (h : Q (.l1 (a ++ b))) : fAdd (.p (.lst a)) (.l1 b) Q := ⟨a, b, rfl, rfl, big hz, h⟩
theorem fSl_lst {a : List T} {lo hi : Option Int} {Q : S → Prop} (h : Q (.l1 (cut a lo hi))) : fSl (.p (.lst a)) lo hi Q := ⟨a, rfl, h⟩
def EvP (t : RE) (e : Sl) (P : T → Prop) : Prop := ∀ Q E, (∀ s : S, P s.fz → Q s) → t e Q E
def EvFP (t : RF) (e : Sl) (P : T → Prop) (n : Nat) : Prop := ∀ Q E, (∀ l : List T, l.length = n → (∀ x ∈ l, P x) → Q l) → t e Q E
theorem evP_of {t : RE} {e : Sl} {P : T → Prop} {s : S} (h : EvS t e s) (p : P s.fz) : EvP t e P := fun Q E q => h _ _ (q s p)
theorem evFP_nil {e : Sl} {P : T → Prop} : EvFP fNil e P 0 := fun Q E h => h [] rfl (fun x hx => by simp at hx)
theorem evFP_cons {e : Sl} {ta : RE} {tr : RF} {P : T → Prop} {n : Nat} (ha : EvP ta e P) (hr : EvFP tr e P n) : EvFP (fCons ta tr) e P (n + 1) := fun Q E h => ha _ _ fun s ps => hr _ _ fun l hl pl => h _ (by simp [hl]) fun x hx => by
  rcases List.mem_cons.mp hx with rfl | hx
  · exact ps
  · exact pl x hx
theorem pickP {e : Sl} {tf : RF} {P : T → Prop} {m : Nat} {Q : S → Prop} {E : Ex → Prop} (h0 : TLY.slotAt e 0 = some (.p .pool)) (hl : EvFP tf e P (m + 1)) (hm : m ≤ 900) (q : ∀ x, P x → Q (.p x)) : rCallU fPick (fCons (rVar 0) (fCons (rLst tf) fNil)) e Q E := by
  unfold rCallU fCons
  refine ev_var h0 _ _ (hl _ _ fun l ll pl => ⟨big (by omega), ?_⟩)
  exact ⟨.lst l, l, rfl, rfl, (fun z => by rw [z] at ll; cases ll), by omega, fun x hx => q x (pl x hx)⟩
theorem fAdd_mk {i j : Int} {Q : S → Prop} (h : Q (.p (.int (i + j)))) : fAdd (.p (.int i)) (.p (.int j)) Q := h
theorem spoilt_law : ∀ args Q E, fSpoilt args Q E → specOf N__law_spoilt 2 (t__law_spoilt fGiven fPick fTake) args Q E := by
  rintro args Q E ⟨n, f, rfl, n1, n6, h⟩
  refine ⟨rfl, ?_⟩
  show t__law_spoilt _ _ _ _ [some (.p .pool), some (.p (grid n f)), none, none, none, none, none, none]
  unfold t__law_spoilt
  refine asg_nd (lcR_nd (ev_var (t := grid n f) rfl _ _ ⟨_, rfl, ?_⟩))
  refine lcRW_map (fun x => match x.items? with | some xs => xs | none => []) (fun x hx Q' hq => ?_) (by simp; exact Nat.le_trans (by omega) sl10) ?_
  · obtain ⟨j, _, rfl⟩ := List.mem_map.mp hx
    exact ⟨_, rfl, hq⟩
  generalize hR : ([] : List (List T)) ++ ((List.range (n + 1)).map (grow n f)).map (fun x => match x.items? with | some xs => xs | none => []) = R
  have ok : RowsOk n R := by
    subst hR
    refine ⟨by simp, fun r hr => ?_⟩
    simp only [List.nil_append, List.mem_map, List.mem_range] at hr
    obtain ⟨x, ⟨j, hj, rfl⟩, rfl⟩ := hr
    refine ⟨by simp [grow, T.items?]; omega, by simp [grow, T.items?]; omega, fun y hy => ?_⟩
    obtain ⟨z, _, rfl⟩ := List.mem_map.mp hy
    rfl
  clear hR
  have hlen := ok.len
  refine asg_nd (take_nd rfl (m := R.length) (fun Q E q => ⟨R.length, rfl, q⟩) (by omega) (log_small (by omega) (by omega)) fun d d0 d1 => ?_)
  obtain ⟨j, rfl⟩ : ∃ j : Nat, d = j := ⟨d.toNat, by omega⟩
  have hj : j < R.length := by omega
  have hjm := List.getElem_mem hj
  obtain ⟨r1, r7, rn⟩ := ok.row _ hjm
  refine asg_nd (take_nd rfl (m := R[j].length) (fun Q E q => ⟨R[j], atI_n (List.getElem?_eq_getElem hj), R[j].length, rfl, q⟩) (by omega) (log_small (by omega) (by omega)) fun d d0 d1 => ?_)
  obtain ⟨i, rfl⟩ : ∃ i : Nat, d = i := ⟨d.toNat, by omega⟩
  have hi : i < R[j].length := by omega
  refine asg_nd (take_nd rfl (m := 8) ev_c (by decide) (by decide) fun kind d0 d1 => ?_)
  show rSeq _ _ _ [some (.p .pool), some (.p (grid n f)), some (.l2 R), some (.p (.int (j : Int))), some (.p (.int (i : Int))), some (.p (.int kind)), none, none]
  have test : ∀ (k : Int) (s2 : S), EvB (tOpT fEq (rSlot 5) (rC (.int k))) [some (.p .pool), some (.p (grid n f)), some s2, some (.p (.int (j : Int))), some (.p (.int (i : Int))), some (.p (.int kind)), none, none] (decide (kind = k)) := fun k s2 Q E q => q
  have cls : ∀ r ∈ R, ∀ x ∈ r, x.cls?.isSome = true := fun r hr x hx => num_cls ((ok.row r hr).2.2 x hx)
  have likeR : ∀ r ∈ R, RowLike (.lst r) := fun r hr => (row_like (cls r hr)).1
  refine if_seq (test 0 _) (fun _ => ?_) (fun _ => ?_)
  · -- kind 0
    refine frz_nd rfl (ret_nd ?_)
    refine pick_nd (L := [.non, .tup [], .tup [.int 0], .tup [.tup [.int 0]], .str (PySem.Str.ofString "hive"), .int 5, .dct, .lst [.lst [.int 0, .int 0]], .lst (R.map .lst ++ [.lst [.int 0]]), .lst (cut (R.map .lst) none (some (-1))), .lst (cut (R.map .lst) (some 1) none), .tup ((List.range (n + 1)).map (grow n f)).reverse]) rfl
      (evF_lst (evF_cons ev_c (evF_cons (evF_tup evF_nil (by simp)) (evF_cons (evF_tup (evF_cons ev_c evF_nil) (by simp)) (evF_cons (evF_tup (evF_cons (evF_tup (evF_cons ev_c evF_nil) (by simp)) evF_nil) (by simp)) (evF_cons ev_c (evF_cons ev_c (evF_cons ev_c
        (evF_cons (evF_lst (evF_cons (evF_lst (evF_cons ev_c (evF_cons ev_c evF_nil)) (by simp)) evF_nil) (by simp))
        (evF_cons (s := .l1 (R.map .lst ++ [.lst [.int 0]])) (ev_op (x := .p (.lst (R.map .lst))) (y := .l1 [.lst [.int 0]]) (ev_slot rfl) (evF_lst (evF_cons (evF_lst (evF_cons ev_c evF_nil) (by simp)) evF_nil) (by simp)) (fun Q h => fAdd_lst (by simp; omega) h))
        (evF_cons (s := .l1 (cut (R.map .lst) none (some (-1)))) (ev_sl1 (s := .p (.lst (R.map .lst))) (ev_slot rfl) (fun Q h => fSl_lst h) (fun Q E h => h) (fun Q E h => h))
        (evF_cons (s := .l1 (cut (R.map .lst) (some 1) none)) (ev_sl1 (s := .p (.lst (R.map .lst))) (ev_slot rfl) (fun Q h => fSl_lst h) (fun Q E h => h) (fun Q E h => h))
        (evF_cons (s := .p (.tup ((List.range (n + 1)).map (grow n f)).reverse)) (ev_un (s := .p (grid n f)) (ev_slot rfl) (fun Q h => h)) evF_nil)))))))))))) (by simp)) (by simp) (by simp) fun x hx => ?_
    have z2 : ∀ r ∈ R.map T.lst, RowLike r := fun r hr => by
      obtain ⟨xs, hxs, rfl⟩ := List.mem_map.mp hr
      exact likeR xs hxs
    have l0 : ∀ r ∈ [T.lst [.int 0, .int 0]], RowLike r := fun r hr => by
      simp only [List.mem_cons, List.not_mem_nil, or_false] at hr
      subst hr
      exact (row_like (fun x hx => by simp at hx; subst hx; rfl)).1
    have l1 : RowLike (.lst [.int 0]) ∧ RowLike (.tup [.int 0]) := row_like (fun x hx => by simp at hx; subst hx; rfl)
    refine h (.p x) ?_
    show Clean x
    simp only [List.mem_cons, List.not_mem_nil, or_false] at hx
    rcases hx with rfl | rfl | rfl | rfl | rfl | rfl | rfl | rfl | rfl | rfl | rfl | rfl
    · exact clean_mk rfl fun l e => by cases e
    · exact (clean_lst (fun r hr => by simp at hr)).2
    · exact (clean_lst (fun r hr => by simp at hr; subst hr; exact like_int)).2
    · exact (clean_lst (fun r hr => by simp at hr; subst hr; exact l1.2)).2
    · exact clean_mk rfl fun l e => by cases e
    · exact clean_mk rfl fun l e => by cases e
    · exact clean_mk rfl fun l e => by cases e
    · exact (clean_lst l0).1
    · exact (clean_lst (fun r hr => by
        rcases List.mem_append.mp hr with hr | hr
        · exact z2 r hr
        · simp at hr; subst hr; exact l1.1)).1
    · exact (clean_lst (fun r hr => z2 r (atI_sub r hr))).1
    · exact (clean_lst (fun r hr => z2 r (atI_sub r hr))).1
    · refine (clean_lst (fun r hr => ?_)).2
      obtain ⟨j, _, rfl⟩ := List.mem_map.mp (List.mem_reverse.mp hr)
      exact (row_like (fun x hx => by obtain ⟨z, _, rfl⟩ := List.mem_map.mp hx; rfl)).2
  · have fin : ∀ s : S, Stands s → ∀ e', e' = [some (.p .pool), some (.p (grid n f)), some s, some (.p (.int (j : Int))), some (.p (.int (i : Int))), some (.p (.int kind)), none, none] → rFrz 2 (rRet (rCallU fGiven (fCons (rVar 0) (fCons (rLc (iSeq (rVar 2)) (gN 6) rYes (rIf (tTru (rIsI ["list"] (rSlot 6))) (rCallU fGiven (fCons (rVar 0) (fCons (rVar 6) fNil))) (rVar 6)) [6]) fNil)))) { nx := fun _ => Q (.p .non), rt := fun s _ => Q s, bk := fun _ => False, ct := fun _ => False, ex := E } e' := fun s hs e' he => by
      subst he
      exact spoilt_end hs fun s e hc => h s hc
    have likeL : ∀ r ∈ R.map T.lst, RowLike r := fun r hr => by
      obtain ⟨xs, hxs, rfl⟩ := List.mem_map.mp hr
      exact likeR xs hxs
    have st2 : ∀ x : T, x.cls?.isSome = true → Stands (.l2 (R.set j (R[j].set i x))) := fun x hx => rows_stand n6 (fun r hr y hy => by
      rcases set_mem hr with hr | rfl
      · exact cls r hr y hy
      · rcases set_mem hy with hy | rfl
        · exact cls _ hjm y hy
        · exact hx) (by rw [List.length_set]; exact hlen)
    refine seq_nd (if_only (test 1 _) (fun _ => ?_) (fun _ => ?_))
    · -- kind 1
      refine frzR_nd rfl (st1_nd rfl ?_)
      have ixr : EvS (rOp fIxB (rSlot 2) (rSlot 3)) ([some (.p .pool), some (.p (grid n f)), some (.l2 R), some (.p (.int (j : Int))), some (.p (.int (i : Int))), some (.p (.int kind)), none, none].set 2 (some (.l1 (R.map T.lst)))) (.p (.lst R[j])) := ev_op (x := .l1 (R.map .lst)) (y := .p (.int j)) (ev_slot rfl) (ev_slot rfl) (fun Q h => ⟨_, atI_n (by rw [List.getElem?_map, List.getElem?_eq_getElem hj]; rfl), h⟩)
      refine pickP (P := RowLike) (m := 4) rfl ?_ (by omega) fun x hx => ?_
      · have lr := row_like (cls _ hjm)
        exact evFP_cons (evP_of (s := .p .non) ev_c ⟨rfl, fun xs e => by cases e⟩)
          (evFP_cons (evP_of (s := .l1 (R[j] ++ [.int 0])) (ev_op ixr (y := .l1 [.int 0]) (evF_lst (evF_cons ev_c evF_nil) (by simp)) (fun Q h => fAdd_lst (by simp; omega) h)) (row_like (fun x hx => by
            rcases List.mem_append.mp hx with hx | hx
            · exact cls _ hjm x hx
            · simp at hx; subst hx; rfl)).1)
          (evFP_cons (evP_of (s := .l1 (cut R[j] (some 1) none)) (ev_sl1 ixr (fun Q h => fSl_lst h) (fun Q E h => h) (fun Q E h => h)) (row_like (fun x hx => cls _ hjm x (atI_sub x hx))).1)
          (evFP_cons (evP_of (s := .p (.int 7)) ev_c like_int)
          (evFP_cons (fun Q E q => by
            have hlen : EvI (rCall fLen (rCons (rOp fIxB (rSlot 2) (rSlot 3)) rNil)) ([some (.p .pool), some (.p (grid n f)), some (.l2 R), some (.p (.int (j : Int))), some (.p (.int (i : Int))), some (.p (.int kind)), none, none].set 2 (some (.l1 (R.map T.lst)))) R[j].length := fun Q E q => by
              unfold rCall rCons rNil
              exact ixr _ _ ⟨R[j].length, rfl, q⟩
            unfold rOp rC
            refine hlen _ _ ⟨by decide, by omega, by omega, fun x => q _ ⟨rfl, fun xs e => by cases e⟩⟩) evFP_nil))))
      · refine ev_slot (s := .p (.int (j : Int))) rfl _ _ ⟨j, by rw [List.length_map]; exact ixN_n hj, ?_⟩
        refine fin (.l1 ((R.map .lst).set j x)) ⟨_, rfl, by rw [List.length_set, List.length_map]; omega, fun r hr => ?_⟩ _ rfl
        rcases set_mem hr with hr | rfl
        · exact likeL r hr
        · exact hx
    · refine if_only (test 2 _) (fun _ => ?_) (fun _ => ?_)
      · -- kind 2
        refine st2_nd rfl ?_
        refine pickP (P := fun x => x.cls?.isSome = true) (m := 4) rfl ?_ (by omega) fun x hx => ?_
        · exact evFP_cons (evP_of (s := .p .non) ev_c rfl) (evFP_cons (evP_of (s := .p (.bl true)) ev_c rfl) (evFP_cons (evP_of (s := .p (.str (PySem.Str.ofString "0"))) ev_c rfl)
            (evFP_cons (evP_of (s := .p (.tup [.int 1, .int 1])) (evF_tup (evF_cons ev_c (evF_cons ev_c evF_nil)) (by simp)) rfl) (evFP_cons (evP_of (s := .p (.tup [.int 0])) (evF_tup (evF_cons ev_c evF_nil) (by simp)) rfl) evFP_nil))))
        · refine ev_slot (s := .p (.int (j : Int))) rfl _ _ ⟨R[j], j, ixN_n hj, List.getElem?_eq_getElem hj, ?_⟩
          refine ev_slot (s := .p (.int (i : Int))) rfl _ _ ⟨i, ixN_n hi, ?_⟩
          exact fin _ (st2 x hx) _ rfl
      · refine if_only (test 3 _) (fun _ => ?_) (fun _ => ?_)
        · -- kind 3
          refine frz_nd rfl ?_
          refine lc_nd (ev_var (t := .lst (R.map .lst)) rfl _ _ ⟨R.map .lst, rfl, ?_⟩)
          refine lcW_any (P := fun _ r => RowLike r) (fun x hx Q' hQ => ?_) (by simpa using big (by omega)) fun rs hrs => ?_
          · obtain ⟨xs, hxs, rfl⟩ := List.mem_map.mp hx
            obtain ⟨_, x7, xn⟩ := ok.row xs hxs
            refine gN_mk ?_
            refine lc_nd (ev_var (t := .lst xs) rfl _ _ ⟨xs, rfl, ?_⟩)
            refine lcW_any (P := fun _ r => ∃ z : Int, r = .int z) (fun y hy Q2 hQ2 => ?_) (by simpa using big (by omega)) fun zs hzs => ?_
            · have := xn y hy
              cases y <;> simp [isNum] at this
              exact hQ2 _ ⟨_, rfl⟩
            · obtain ⟨ns, rfl, _⟩ := all2_ints hzs
              exact hQ _ (row_like (fun x hx => by simp at hx; obtain ⟨z, _, rfl⟩ := hx; rfl)).1
          · simp only [List.nil_append]
            refine fin (.l1 rs) ⟨rs, rfl, by rw [← hrs.length, List.length_map]; omega, fun r hr => ?_⟩ _ rfl
            obtain ⟨m, hm, rfl⟩ := List.getElem_of_mem hr
            obtain ⟨x, _, h2⟩ := hrs.getR (i := m) (List.getElem?_eq_getElem hm)
            exact h2
        · -- the others
          refine st2_nd rfl ?_
          have hn : isNum R[j][i] = true := rn _ (List.getElem_mem hi)
          obtain ⟨z, hz⟩ : ∃ z, R[j][i] = .int z := by
            generalize R[j][i] = y at hn
            cases y <;> simp [isNum] at hn
            exact ⟨_, rfl⟩
          have cell : EvI (rOp fIxB (rOp fIxB (rSlot 2) (rSlot 3)) (rSlot 4)) [some (.p .pool), some (.p (grid n f)), some (.l2 R), some (.p (.int (j : Int))), some (.p (.int (i : Int))), some (.p (.int kind)), none, none] z :=
            ev_op (x := .l1 R[j]) (y := .p (.int i)) (ev_op (x := .l2 R) (y := .p (.int j)) (ev_slot rfl) (ev_slot rfl) (fun Q h => ⟨_, atI_n (List.getElem?_eq_getElem hj), h⟩)) (ev_slot rfl) (fun Q h => ⟨_, atI_n (by rw [List.getElem?_eq_getElem hi, hz]), h⟩)
          refine cell _ _ (pickP (P := fun x => ∃ z : Int, x = .int z) (m := 6) rfl ?_ (by omega) fun x hx => ?_)
          · exact evFP_cons (evP_of (s := .p (.int 1)) ev_c ⟨_, rfl⟩) (evFP_cons (evP_of (s := .p (.int (-1))) (ev_un (s := .p (.int 1)) ev_c (fun Q h => h)) ⟨_, rfl⟩) (evFP_cons (evP_of (s := .p (.int 1)) ev_c ⟨_, rfl⟩) (evFP_cons (evP_of (s := .p (.int (-1))) (ev_un (s := .p (.int 1)) ev_c (fun Q h => h)) ⟨_, rfl⟩)
              (evFP_cons (evP_of (s := .p (.int 2)) ev_c ⟨_, rfl⟩) (evFP_cons (evP_of (s := .p (.int (-2))) (ev_un (s := .p (.int 2)) ev_c (fun Q h => h)) ⟨_, rfl⟩) (evFP_cons (evP_of (s := .p (.int (10 ^ 20))) (ev_op (x := .p (.int 10)) (y := .p (.int 20)) ev_c ev_c (fun Q h => ⟨⟨by decide, by decide, by decide⟩, h⟩)) ⟨_, rfl⟩) evFP_nil))))))
          · obtain ⟨y, rfl⟩ := hx
            refine fAdd_mk ?_
            refine ev_slot (s := .p (.int (j : Int))) rfl _ _ ⟨R[j], j, ixN_n hj, List.getElem?_eq_getElem hj, ?_⟩
            refine ev_slot (s := .p (.int (i : Int))) rfl _ _ ⟨i, ixN_n hi, ?_⟩
            exact fin _ (st2 (.int (z + y)) rfl) _ rfl
end K36

namespace K36
open PySem PySem.Spec PyProof.Rows L2 TLY
/-! ### the law -/
structure Like (n : Nat) (f : Nat × Nat → Int) (t : T) : Prop where
  cl : Clean t
  sh : Shape n t
  en : ∀ p : Nat × Nat, p.1 + p.2 ≤ n → ent t p = f p
theorem like_grid {n : Nat} {f : Nat × Nat → Int} : Like n f (grid n f) := ⟨grid_clean, grid_shape, fun p hp => grid_ent hp⟩
theorem like_of {n : Nat} {f : Nat × Nat → Int} {rs : List T} {t : T} (ht : t.items? = some rs) (hc : t.cls?.isSome = true) (h : All2 LikeR ((List.range (n + 1)).map (grow n f)) rs) : Like n f t := by
  have row : ∀ j, j < n + 1 → ∃ r, rs[j]? = some r ∧ r.items? = some ((List.range (n + 1 - j)).map fun i => T.int (f (i, j))) := fun j hj => by
    obtain ⟨r, h1, h2, _⟩ := h.get (grid_row (f := f) hj)
    exact ⟨r, h1, h2⟩
  have len : rs.length = n + 1 := by rw [← h.length]; simp
  have rowR : ∀ r ∈ rs, ∃ j, r.items? = some ((List.range (n + 1 - j)).map fun i => T.int (f (i, j))) := fun r hr => by
    obtain ⟨m, hm, rfl⟩ := List.getElem_of_mem hr
    obtain ⟨r', h1, h2⟩ := row m (by omega)
    rw [List.getElem?_eq_getElem hm] at h1
    cases h1
    exact ⟨m, h2⟩
  refine ⟨⟨hc, fun l hl r hr => ?_, fun l hl r hr xs hxs x hx => ?_⟩, ⟨rs, ht, len, fun j hj => ?_⟩, fun p hp => ?_⟩
  · rw [ht] at hl; cases hl
    obtain ⟨j, e⟩ := rowR r hr
    cases r <;> simp [T.items?] at e <;> rfl
  · rw [ht] at hl; cases hl
    obtain ⟨j, e⟩ := rowR r hr
    rw [hxs] at e; cases e
    obtain ⟨i, _, rfl⟩ := List.mem_map.mp hx
    rfl
  · obtain ⟨r, h1, h2⟩ := row j hj
    refine ⟨r, _, h1, h2, by simp, fun x hx => ?_⟩
    obtain ⟨i, _, rfl⟩ := List.mem_map.mp hx
    rfl
  · obtain ⟨r, h1, h2⟩ := row p.2 (by omega)
    have a : At t p (f p) := ⟨rs, r, _, ht, h1, h2, by rw [List.getElem?_map, List.getElem?_range (by omega)]; rfl⟩
    exact a.ent
theorem Like.hive {n : Nat} {f : Nat × Nat → Int} {t : T} (h : Like n f t) (hf : HvF n f) (n1 : 1 ≤ n) (n6 : n ≤ 6) : IsHive t :=
  ⟨n, n1, n6, h.sh, by rw [h.en (0, 0) (by simp)]; exact hf.1, (hf.congr fun p hp => (h.en p hp).symm).2⟩
theorem Like.bord {n : Nat} {f : Nat × Nat → Int} {t : T} (h : Like n f t) : bordT n (ent t) = bordT n f := by
  have e1 : first n (ent t) = first n f := List.map_congr_left fun k hk => by
    have hk : k < n := by simpa using hk
    rw [h.en (k + 1, 0) (by simp; omega), h.en (k, 0) (by simp; omega)]
  have e2 : second n (ent t) = second n f := List.map_congr_left fun k hk => by
    have hk : k < n := by simpa using hk
    rw [h.en (n - (k + 1), k + 1) (by simp; omega), h.en (n - k, k) (by simp; omega)]
  have e3 : third n (ent t) = third n f := List.map_congr_left fun k hk => by
    have hk : k < n := by simpa using hk
    rw [h.en (0, k + 1) (by simp; omega), h.en (0, k) (by simp; omega)]
  unfold bordT
  rw [e1, e2, e3]
theorem Like.turn {n : Nat} {f : Nat × Nat → Int} {t : T} (h : Like n f t) : grid n (turnF n (ent t)) = grid n (turnF n f) := grid_congr fun p hp => by
  unfold turnF
  rw [h.en (n - p.1 - p.2, p.1) (by show n - p.1 - p.2 + p.1 ≤ n; omega), h.en (n, 0) (by simp)]
theorem Shape.same {n m : Nat} {t : T} (h : Shape n t) (h2 : Shape m t) : m = n := by
  obtain ⟨l, e, _, _⟩ := id h
  have := (h.len e).1
  have := (h2.len e).1
  omega
theorem handed_nd {n : Nat} {f : Nat × Nat → Int} {e : Sl} {i j : Nat} {Q : S → Prop} {E : Ex → Prop} (hn : n ≤ 6) (hi : TLY.slotAt e i = some (.p .pool)) (hj : TLY.slotAt e j = some (.p (grid n f))) (q : ∀ s : S, Like n f s.fz → Q s) : rCallU fHanded (fCons (rVar i) (fCons (rVar j) fNil)) e Q E := by
  unfold rCallU fCons
  refine ev_var hi _ _ (ev_var hj _ _ ⟨grid n f, _, rfl, rfl, by simp; omega, fun r hr => ?_, fun rs hrs => ⟨q _ (like_of rfl rfl hrs), q _ (like_of rfl rfl hrs)⟩⟩)
  obtain ⟨j, _, rfl⟩ := List.mem_map.mp hr
  rfl
theorem dats_ints : ∀ l : List Int, PyData.canLayAll0 (T.dats (l.map T.int)) = true
  | [] => by simp [T.dats, PyData.canLayAll0]
  | z :: l => by simp [T.dats, T.dat, PyData.canLayAll0, PyData.canLay0, dats_ints l]
theorem depth_ints : ∀ l : List Int, PyData.depthAll (T.dats (l.map T.int)) ≤ 1
  | [] => by simp [T.dats, PyData.depthAll]
  | z :: l => by
    have := depth_ints l
    simp only [List.map_cons, T.dats, T.dat, PyData.depthAll, PyData.depth]
    omega
theorem shaped_ints (l : List Int) : (S.l1 (l.map T.int)).shaped := by
  refine ⟨?_, fun m e => by cases e⟩
  show SeqAt.shaped (.list (T.dats (l.map T.int))) = true
  have := depth_ints l
  exact Bool.and_eq_true_iff.mpr ⟨by rw [PyData.canLay0]; exact dats_ints l, decide_eq_true (by rw [PyData.depth]; omega)⟩
theorem ev_down {e : Sl} {j : Nat} {r : List Int} (hj : TLY.slotAt e j = some (.p (tInts r))) (hp : r.Pairwise (· ≥ ·)) : EvS (rOp fNe (rCall fList (rCons (rSlot j) rNil)) (rUn fRev (rCall fSortedA (rCons (rSlot j) rNil)))) e (.p (.bl false)) := fun Q E q => by
  unfold rOp rUn rCall rCons rNil
  refine ev_slot hj _ _ ⟨r.map .int, rfl, ev_slot hj _ _ ⟨r, rfl, fun ns hperm hs => ⟨ns.map .int, rfl, ?_⟩⟩⟩
  rw [← List.map_reverse, sorted_back hperm hs hp]
  refine ⟨shaped_ints r, shaped_ints r, ?_⟩
  have : PyData.eqv (S.l1 (r.map T.int)).fz.dat (S.l1 (r.map T.int)).fz.dat = true := SeqAt.eqv_refl _ (SeqAt.canLay_of_shaped (shaped_ints r).1)
  rw [this]
  exact q
theorem ev_any_down {e : Sl} {i j : Nat} {n : Nat} {f : Nat × Nat → Int} (hi : TLY.slotAt e i = some (.p (bordT n f))) (hj : ∀ s, TLY.slotAt ((wipeE e [j]).set j s) j = s) (h : Ineq n f) :
    EvS (rCall fAny (rCons (rLc (iSeq (rVar i)) (gN j) rYes (rOp fNe (rCall fList (rCons (rSlot j) rNil)) (rUn fRev (rCall fSortedA (rCons (rSlot j) rNil)))) [j]) rNil)) e (.p (.bl false)) := fun Q E q => by
  unfold rCall rCons rNil
  refine lc_nd (ev_var hi _ _ ⟨_, rfl, ?_⟩)
  refine lcW_map (fun _ => .p (.bl false)) (fun x hx Q' hq => ?_) (by simpa using Nat.le_trans (by decide) sl10) ⟨[false, false, false], rfl, q⟩
  simp only [List.mem_cons, List.not_mem_nil, or_false] at hx
  rcases hx with rfl | rfl | rfl
  · exact ev_down (hj _) (first_pw h) _ _ hq
  · exact ev_down (hj _) (second_pw h) _ _ hq
  · exact ev_down (hj _) (third_pw h) _ _ hq
theorem ev_negs {e : Sl} {i j : Nat} {k : Int} {n : Nat} {f : Nat × Nat → Int} {r : List Int} (hi : TLY.slotAt e i = some (.p (bordT n f))) (hk : L2.atI [tInts (first n f), tInts (second n f), tInts (third n f)] k = some (tInts r)) (hr : r.length ≤ 1000) (hj : ∀ s, TLY.slotAt ((wipeE e [j]).set j s) j = s) :
    EvS (rCall fTuple (rCons (rLc (iSeq (rUn fRev (rOp fIxB (rSlot i) (rC (.int k))))) (gN j) rYes (rUn fNeg (rSlot j)) [j]) rNil)) e (.p (tInts (r.reverse.map fun z => -z))) := fun Q E q => by
  unfold rCall rCons rNil
  refine lc_nd ?_
  unfold iSeq rUn rOp rC
  refine ev_slot hi _ _ ⟨tInts r, hk, ⟨_, rfl, ?_⟩⟩
  rw [← List.map_reverse]
  refine lcW_map (fun x => match x with | .int z => .p (.int (-z)) | _ => .p .non) (fun x hx Q' hq => ?_) (by simpa using big hr) ⟨_, rfl, ?_⟩
  · obtain ⟨z, _, rfl⟩ := List.mem_map.mp hx
    exact ev_slot (hj _) _ _ hq
  · have : T.tup ([] ++ (r.reverse.map T.int).map fun x => S.fz (match x with | .int z => S.p (.int (-z)) | _ => .p .non)) = tInts (r.reverse.map fun z => -z) := by
      unfold tInts
      rw [List.nil_append, List.map_map, List.map_map]
      rfl
    rw [this]
    exact q
end K36

namespace K36
open PySem PySem.Spec PyProof.Rows L2 TLY
theorem take_ndI {e : Sl} {i : Nat} {tn : RE} {m : Int} {Q : S → Prop} {E : Ex → Prop} (h0 : TLY.slotAt e i = some (.p .pool)) (hn : EvI tn e m) (hm : 0 < m) (hz : m.natAbs.log2 < 9000) (q : ∀ d : Int, 0 ≤ d → d < m → Q (.p (.int d))) : rCallU fTake (fCons (rVar i) (fCons tn fNil)) e Q E := by
  unfold rCallU fCons
  exact ev_var h0 _ _ (hn _ _ ⟨m, rfl, hm, hz, q⟩)
theorem pickPI {e : Sl} {i : Nat} {tf : RF} {P : T → Prop} {m : Nat} {Q : S → Prop} {E : Ex → Prop} (h0 : TLY.slotAt e i = some (.p .pool)) (hl : EvFP tf e P (m + 1)) (hm : m ≤ 900) (q : ∀ x, P x → Q (.p x)) : rCallU fPick (fCons (rVar i) (fCons (rLst tf) fNil)) e Q E := by
  unfold rCallU fCons
  refine ev_var h0 _ _ (hl _ _ fun l ll pl => ⟨big (by omega), ?_⟩)
  exact ⟨.lst l, l, rfl, rfl, (fun z => by rw [z] at ll; cases ll), by omega, fun x hx => q x (pl x hx)⟩
/-- same(a, b) where both come out as one tree -/
theorem ev_same {e : Sl} {ta tb : RE} {s u : S} (ha : EvS ta e s) (hb : EvS tb e u) (hs : u.fz = s.fz) (hp : Plain 2 s.fz) : EvS (rCallU (fSame 2) (fCons ta (fCons tb fNil))) e (.p (.bl true)) := ev_call2 ha hb fun Q E q => ⟨s.fz, by rw [hs], hp, q⟩
theorem iff_true_of {b : Bool} {p : Prop} (h : b = true ↔ p) (hp : p) : b = true := h.mpr hp
theorem ev_isH {e : Sl} {ta : RE} {t : T} (ha : EvS ta e (.p t)) (hc : Clean t) : EvS (rCallU fHive (fCons ta fNil)) e (.p (.bl (isHv t))) := ev_call1 (s := .p t) ha fun Q E q => ⟨t, rfl, hc, fun b hb => by
  have : b = isHv t := by
    have := isHv_iff (t := t)
    cases b <;> cases e : isHv t <;> simp_all
  rw [this]; exact q⟩
theorem plain_bl {b : Bool} : Plain 2 (.bl b) := trivial
theorem call2_nd {sp : FSpec} {ta tb : RE} {e : Sl} {s u : S} {Q : S → Prop} {E : Ex → Prop} (ha : EvS ta e s) (hb : EvS tb e u) (h : sp [s.fz, u.fz] Q E) : rCallU sp (fCons ta (fCons tb fNil)) e Q E := by
  unfold rCallU fCons
  exact ha _ _ (hb _ _ h)
/-- one spoilt thing -/
theorem inner_step {D : EndsR} {K : Sl → Prop} {n : Nat} {f : Nat × Nat → Int} {a2 a3 a5 a6 a7 a8 a9 a10 a11 a12 a13 : Option S} (n1 : 1 ≤ n) (n6 : n ≤ 6)
    (hK : ∀ b8 b9 b10 b11, K [none, some (.p .pool), a2, a3, some (.p (grid n f)), a5, a6, a7, b8, b9, b10, b11, a12, a13]) :
    rFrz 1 (rFrz 4 (rSeq (rAsg 9 (rCallU fSpoilt (fCons (rVar 1) (fCons (rVar 4) fNil))))
      (rFrz 9 (rSeq (rAsg 10 (rCallU fHive (fCons (rVar 9) fNil)))
      (rFrz 9 (rFrz 10 (rSeq (rIfS (tNotR (tTru (rCallU (fSame 2) (fCons (rCallU fHive (fCons (rVar 9) fNil)) (fCons (rVar 10) fNil))))) (rRet (rC (.bl false))) rNext)
      (rSeq (rAsg 11 (rIf (tTru (rSlot 10)) (rC .non) (rC (.bl true))))
      (rFrz 9 (rIfS (tNotR (tTru (rCallU (fSame 2) (fCons (rLst (fCons (rCallU fRaised (fCons (rC (.str (PySem.Str.ofString "border"))) (fCons (rVar 9) fNil))) (fCons (rCallU fRaised (fCons (rC (.str (PySem.Str.ofString "turned"))) (fCons (rVar 9) fNil))) fNil))) (fCons (rLst (fCons (rVar 11) (fCons (rVar 11) fNil))) fNil))))) (rRet (rC (.bl false))) rNext))))))))))
      { D with nx := K } [none, some (.p .pool), a2, a3, some (.p (grid n f)), a5, a6, a7, a8, a9, a10, a11, a12, a13] := by
  refine frz_nd rfl (frz_nd rfl (asg_nd ?_))
  refine call2_nd (s := .p .pool) (u := .p (grid n f)) (ev_var rfl) (ev_var rfl) ⟨n, f, rfl, n1, n6, fun s hc => ?_⟩
  refine frz_nd (s := s) rfl ?_
  generalize ht : s.fz = t at hc
  show rSeq _ _ _ [none, some (.p .pool), a2, a3, some (.p (grid n f)), a5, a6, a7, a8, some (.p t), a10, a11, a12, a13]
  have ec := ev_isH (e := [none, some (.p .pool), a2, a3, some (.p (grid n f)), a5, a6, a7, a8, some (.p t), a10, a11, a12, a13]) (ta := rVar 9) (ev_var rfl) hc
  refine asg_seq ec ?_
  refine frz_nd (s := .p t) rfl (frz_nd (s := .p (.bl (isHv t))) rfl ?_)
  show rSeq _ _ _ [none, some (.p .pool), a2, a3, some (.p (grid n f)), a5, a6, a7, a8, some (.p t), some (.p (.bl (isHv t))), a11, a12, a13]
  refine if_seq (b := false) (ev_notR (ev_tru (a := true) (ev_same (s := .p (.bl (isHv t))) (u := .p (.bl (isHv t))) (ev_isH (ev_var rfl) hc) (ev_var rfl) rfl plain_bl))) (fun z => Bool.noConfusion z) (fun _ => ?_)
  refine asg_seq (s := .p (if isHv t = true then .non else .bl true)) (fun Q E q => if_nd (ev_tru (ev_slot (s := .p (.bl (isHv t))) rfl) _ _ ?_)) ?_
  · by_cases hb : isHv t = true
    · rw [if_pos hb] at q ⊢; exact q
    · rw [if_neg hb] at q ⊢; exact q
  refine frz_nd (s := .p t) rfl ?_
  show rIfS _ _ _ _ [none, some (.p .pool), a2, a3, some (.p (grid n f)), a5, a6, a7, a8, some (.p t), some (.p (.bl (isHv t))), some (.p (if isHv t = true then .non else .bl true)), a12, a13]
  have rs : ∀ s : PySem.Str, EvS (rCallU fRaised (fCons (rC (.str s)) (fCons (rVar 9) fNil))) [none, some (.p .pool), a2, a3, some (.p (grid n f)), a5, a6, a7, a8, some (.p t), some (.p (.bl (isHv t))), some (.p (if isHv t = true then .non else .bl true)), a12, a13] (.p (if isHv t = true then .non else .bl true)) := fun s => ev_call2 (s := .p (.str s)) (u := .p t) ev_c (ev_var rfl) fun Q E q => ⟨s, t, rfl, hc, fun hh => by rw [if_pos (isHv_iff.mpr hh)] at q; exact q, fun hh => by rw [if_neg (fun z => hh (isHv_iff.mp z))] at q; exact q⟩
  refine if_only (b := false) (ev_notR (ev_tru (a := true) (ev_same (s := .l1 [if isHv t = true then .non else .bl true, if isHv t = true then .non else .bl true]) (u := .l1 [if isHv t = true then .non else .bl true, if isHv t = true then .non else .bl true]) (evF_lst (evF_cons (rs _) (evF_cons (rs _) evF_nil)) (by simp)) (evF_lst (evF_cons (ev_var rfl) (evF_cons (ev_var rfl) evF_nil)) (by simp)) rfl ?_))) (fun z => Bool.noConfusion z) (fun _ => hK _ _ _ _)
  refine ⟨by simp, fun x hx => ?_⟩
  have : x = if isHv t = true then .non else .bl true := by simpa using hx
  rw [this]
  cases isHv t <;> trivial
end K36

namespace K36
open PySem PySem.Spec PyProof.Rows L2 TLY
theorem call3_nd {sp : FSpec} {ta tb tc : RE} {e : Sl} {Q : S → Prop} {E : Ex → Prop} (h : ta e (fun s => tb e (fun u => tc e (fun w => sp [s.fz, u.fz, w.fz] Q E) E) E) E) : rCallU sp (fCons ta (fCons tb (fCons tc fNil))) e Q E := h
theorem add_nd {ta tb : RE} {e : Sl} {x : Int} {Q : S → Prop} {E : Ex → Prop} (ha : EvI ta e x) (h : tb e (fun y => fAdd (.p (.int x)) y Q) E) : rOp fAdd ta tb e Q E := ha _ _ h
/-- a call whose one argument is what another call hands back -/
theorem ev_of_handed {n : Nat} {f : Nat × Nat → Int} {e : Sl} {i j : Nat} {sp : FSpec} {r : S} (hn : n ≤ 6) (hi : TLY.slotAt e i = some (.p .pool)) (hj : TLY.slotAt e j = some (.p (grid n f))) (h : ∀ t, Like n f t → ∀ Q E, Q r → sp [t] Q E) :
    EvS (rCallU sp (fCons (rCallU fHanded (fCons (rVar i) (fCons (rVar j) fNil))) fNil)) e r := fun Q E q => by
  show rCallU fHanded _ e _ _
  exact handed_nd hn hi hj fun s hs => h s.fz hs _ _ q
theorem hive_true {n : Nat} {f : Nat × Nat → Int} {t : T} (h : Like n f t) (hf : HvF n f) (n1 : 1 ≤ n) (n6 : n ≤ 6) : ∀ Q E, Q (S.p (.bl true)) → fHive [t] Q E := fun Q E q => ⟨t, rfl, h.cl, fun b hb => by rw [hb.mpr (h.hive hf n1 n6)]; exact q⟩
theorem bord_at {C : Addr} {n : Nat} {f : Nat × Nat → Int} {t : T} (h : Like n f t) (hf : HvF n f) (n1 : 1 ≤ n) (n6 : n ≤ 6) : ∀ Q E, Q (S.p (bordT n f)) → fBord C [t] Q E := fun Q E q => ⟨t, rfl, h.cl, fun m _ sh _ => by
  have := Shape.same h.sh sh
  subst this
  rw [h.bord]; exact q, fun hn => absurd (h.hive hf n1 n6) hn⟩
theorem turn_at {C : Addr} {n : Nat} {f : Nat × Nat → Int} {t : T} (h : Like n f t) (hf : HvF n f) (n1 : 1 ≤ n) (n6 : n ≤ 6) : ∀ Q E, Q (S.p (grid n (turnF n f))) → fTurn C [t] Q E := fun Q E q => ⟨t, rfl, h.cl, fun m _ _ sh _ => by
  have := Shape.same h.sh sh
  subst this
  rw [h.turn]; exact q, fun hn => absurd (h.hive hf n1 n6) hn⟩
theorem law_pure {cB : Addr} : t_law fLBord fHanded fHive fPick fRaised (fSame 2) fSome fSpoilt fTake fLTurn (fBord cB) fHive (fTurn cB) lawEnds (lawStart N_law) := by
  show t_law _ _ _ _ _ _ _ _ _ _ _ _ _ _ [none, some (.p .pool), none, none, none, none, none, none, none, none, none, none, none, none]
  unfold t_law
  refine for_seq (l := TLY.upTo 0 3) (fun Q E q => ⟨⟨by decide, by decide⟩, q⟩) (fun _ e => ∃ a2 a3 a4 a5 a6 a7 a8 a9 a10 a11 a12 a13, e = [none, some (.p .pool), a2, a3, a4, a5, a6, a7, a8, a9, a10, a11, a12, a13]) ⟨_, _, _, _, _, _, _, _, _, _, _, _, rfl⟩ ?_ ?_
  · rintro i x e K hx ⟨a2, a3, a4, a5, a6, a7, a8, a9, a10, a11, a12, a13, rfl⟩ hK
    refine gN_mk (frz_nd (s := .p .pool) rfl (asg_nd ?_))
    refine add_nd (x := 1) ev_c (take_ndI (i := 1) rfl (m := 6) ev_c (by decide) (by decide) fun d d0 d1 => ?_)
    refine fAdd_mk ?_
    obtain ⟨n, hn, n1, n6⟩ : ∃ n : Nat, 1 + d = (n : Int) ∧ 1 ≤ n ∧ n ≤ 6 := ⟨(1 + d).toNat, by omega, by omega, by omega⟩
    rw [hn]
    refine frz_nd (s := .p .pool) rfl (frz_nd (s := .p (.int n)) rfl (asg_nd (call3_nd ?_)))
    refine ev_var (t := .pool) rfl _ _ (ev_var (t := .int n) rfl _ _ ?_)
    refine pickPI (P := fun x => ∃ z : Int, x = .int z ∧ 0 ≤ z) (m := 3) rfl ?_ (by omega) fun y hy => ?_
    · exact evFP_cons (evP_of (s := .p (.int 1)) ev_c ⟨_, rfl, by decide⟩) (evFP_cons (evP_of (s := .p (.int 3)) ev_c ⟨_, rfl, by decide⟩) (evFP_cons (evP_of (s := .p (.int 50)) ev_c ⟨_, rfl, by decide⟩)
        (evFP_cons (evP_of (s := .p (.int (10 ^ 27))) (ev_op (x := .p (.int 10)) (y := .p (.int 27)) ev_c ev_c (fun Q h => ⟨⟨by decide, by decide, by decide⟩, h⟩)) ⟨_, rfl, by decide⟩) evFP_nil)))
    obtain ⟨size, rfl, s0⟩ := hy
    refine ⟨n, size, rfl, by omega, s0, fun f hf => ?_⟩
    have lk := like_grid (n := n) (f := f)
    refine frz_nd (s := .p .pool) rfl (frz_nd (s := .p (grid n f)) rfl ?_)
    show rSeq _ _ _ [none, some (.p .pool), some (.p x), some (.p (.int n)), some (.p (grid n f)), a5, a6, a7, a8, a9, a10, a11, a12, a13]
    have p2 : Plain 2 (grid n f) := plain_grid (by omega)
    refine if_seq (b := false || false) (ev_or (ev_notR (ev_tru (a := true) (ev_call1 (s := .p (grid n f)) (ev_var rfl) (hive_true lk hf n1 n6)))) fun _ => ev_notR (ev_tru (a := true) (ev_same (s := .p (.bl true)) (u := .p (.bl true)) (ev_of_handed (i := 1) (j := 4) n6 rfl rfl fun t ht => hive_true ht hf n1 n6) ev_c rfl plain_bl))) (fun z => Bool.noConfusion z) (fun _ => ?_)
    refine frz_nd (s := .p (grid n f)) rfl ?_
    refine asg_seq (s := .p (bordT n f)) (ev_call1 (s := .p (grid n f)) (ev_var rfl) fun Q E q => ⟨grid n f, n, rfl, grid_shape, by omega, by rw [lk.bord]; exact q⟩) ?_
    refine frz_nd (s := .p .pool) rfl (frz_nd (s := .p (grid n f)) rfl (frz_nd (s := .p (bordT n f)) rfl ?_))
    show rSeq _ _ _ [none, some (.p .pool), some (.p x), some (.p (.int n)), some (.p (grid n f)), some (.p (bordT n f)), a6, a7, a8, a9, a10, a11, a12, a13]
    refine if_seq (b := false || false) (ev_or (ev_tru (ev_any_down rfl (fun _ => rfl) hf.2)) fun _ => ev_notR (ev_tru (a := true) (ev_same (s := .p (bordT n f)) (u := .p (bordT n f)) (ev_of_handed (i := 1) (j := 4) n6 rfl rfl fun t ht => bord_at ht hf n1 n6) (ev_var rfl) rfl (plain_bord (by omega))))) (fun z => Bool.noConfusion z) (fun _ => ?_)
    refine frz_nd (s := .p .pool) rfl (frz_nd (s := .p (grid n f)) rfl ?_)
    have hf' := turn_hv hf
    have lk' := like_grid (n := n) (f := turnF n f)
    refine asg_seq (s := .p (grid n (turnF n f))) (ev_of_handed (i := 1) (j := 4) n6 rfl rfl fun t ht => turn_at ht hf n1 n6) ?_
    refine frz_nd (s := .p (grid n (turnF n f))) rfl (frz_nd (s := .p (grid n f)) rfl ?_)
    show rSeq _ _ _ [none, some (.p .pool), some (.p x), some (.p (.int n)), some (.p (grid n f)), some (.p (bordT n f)), some (.p (grid n (turnF n f))), a7, a8, a9, a10, a11, a12, a13]
    have lk2 := like_grid (n := n) (f := turnF n (turnF n f))
    have hf2 := turn_hv hf'
    refine if_seq (b := false || false) (ev_or (ev_notR (ev_tru (a := true) (ev_same (s := .p (grid n (turnF n f))) (u := .p (grid n (turnF n f))) (ev_var rfl) (ev_call1 (s := .p (grid n f)) (ev_var rfl) fun Q E q => ⟨grid n f, n, rfl, grid_shape, by omega, by rw [grid_turn]; exact q⟩) rfl (plain_grid (by omega))))) fun _ =>
      ev_notR (ev_tru (a := true) (ev_same (s := .p (grid n f)) (u := .p (grid n f)) (ev_call1 (s := .p (grid n (turnF n (turnF n f)))) (ev_call1 (s := .p (grid n (turnF n f))) (ev_var rfl) (turn_at lk' hf' n1 n6)) fun Q E q => turn_at lk2 hf2 n1 n6 Q E (by rw [turn3 hf.1]; exact q)) (ev_var rfl) rfl p2))) (fun z => Bool.noConfusion z) (fun _ => ?_)
    have e7 : bordT n (turnF n f) = .tup [tInts (second n f), tInts ((third n f).reverse.map fun z => -z), tInts ((first n f).reverse.map fun z => -z)] := by
      unfold bordT
      rw [first_turn, second_turn, third_turn]
    refine asg_seq (s := .p (bordT n (turnF n f))) (by
      rw [e7]
      exact ev_tup3 (a := .p (tInts (second n f))) (ev_op (x := .p (bordT n f)) (y := .p (.int 1)) (ev_slot rfl) ev_c (fun Q h => ⟨_, rfl, h⟩)) (ev_negs (k := 2) (n := n) (f := f) rfl rfl (by simp [third]; omega) (fun _ => rfl)) (ev_negs (k := 0) (n := n) (f := f) rfl rfl (by simp [first]; omega) (fun _ => rfl))) ?_
    refine frz_nd (s := .p (grid n (turnF n f))) rfl ?_
    show rSeq _ _ _ [none, some (.p .pool), some (.p x), some (.p (.int n)), some (.p (grid n f)), some (.p (bordT n f)), some (.p (grid n (turnF n f))), some (.p (bordT n (turnF n f))), a8, a9, a10, a11, a12, a13]
    refine if_seq (b := false || false) (ev_or (ev_notR (ev_tru (a := true) (ev_same (s := .p (bordT n (turnF n f))) (u := .p (bordT n (turnF n f))) (ev_call1 (s := .p (grid n (turnF n f))) (ev_var rfl) (bord_at lk' hf' n1 n6)) (ev_var rfl) rfl (plain_bord (by omega))))) fun _ =>
      ev_notR (ev_tru (a := true) (ev_same (s := .p (.bl true)) (u := .p (.bl true)) (ev_call1 (s := .p (grid n (turnF n f))) (ev_var rfl) (hive_true lk' hf' n1 n6)) ev_c rfl plain_bl))) (fun z => Bool.noConfusion z) (fun _ => ?_)
    show rFor _ _ _ _ [none, some (.p .pool), some (.p x), some (.p (.int n)), some (.p (grid n f)), some (.p (bordT n f)), some (.p (grid n (turnF n f))), some (.p (bordT n (turnF n f))), a8, a9, a10, a11, a12, a13]
    refine ⟨⟨by decide, by decide⟩, ?_⟩
    refine forW_inv (fun _ e => ∃ b8 b9 b10 b11, e = [none, some (.p .pool), some (.p x), some (.p (.int n)), some (.p (grid n f)), some (.p (bordT n f)), some (.p (grid n (turnF n f))), some (.p (bordT n (turnF n f))), b8, b9, b10, b11, a12, a13]) ⟨_, _, _, _, rfl⟩ ?_ ?_
    · rintro k y e K2 hy ⟨b8, b9, b10, b11, rfl⟩ hK2
      exact gN_mk (inner_step (D := { nx := K, rt := lawEnds.rt, bk := K2, ct := K2, ex := lawEnds.ex }) n1 n6 fun _ _ _ _ => hK2 _ ⟨_, _, _, _, rfl⟩)
    · rintro e ⟨b8, b9, b10, b11, rfl⟩
      exact hK _ ⟨_, _, _, _, _, _, _, _, _, _, _, _, rfl⟩
  · rintro e ⟨a2, a3, a4, a5, a6, a7, a8, a9, a10, a11, a12, a13, rfl⟩
    rfl
end K36

namespace K36
open PySem PySem.Spec PyProof.Rows L2 TLY
section
variable {P : Program} {w : World} {K : PySem.W.Frag} {mg : Str → Option Value} {base : Heap}
theorem ok_law_all (T : Txt K mg) : FnOk P w K mg base (L2.CX P w) 12 T.d_law.f T.d_law.fd ["script"] (spLaw K) := by
  have take := ok__law_take (P := P) (w := w) (base := base) T
  have num := (ok_is_number (P := P) (w := w) (base := base) T (k := 0)).imp (spOf_imp num_law)
  have num2 := (ok__law_is_integer (P := P) (w := w) (base := base) T (k := 0)).imp (spOf_imp num_law2)
  have rho := (ok_rhombi (P := P) (w := w) (base := base) T (k := 0)).imp (spOf_imp rhombi_law)
  have sid := (ok_sides_of (P := P) (w := w) (base := base) T (k := 0)).imp (spOf_imp sides_law)
  have atp := (ok_at_place (P := P) (w := w) (base := base) T (k := 0)).imp (spOf_imp at_law)
  have dia2 := (ok__law_diamonds (P := P) (w := w) (base := base) T (k := 0)).imp (spOf_imp dia_law2)
  have lbord := (ok__law_border (P := P) (w := w) (base := base) T (k := 0)).imp (spOf_imp lbord_law)
  have lturn := (ok__law_turned (P := P) (w := w) (base := base) T (k := 0)).imp (spOf_imp lturn_law)
  have sumh := (ok__law_hive_sum (P := P) (w := w) (base := base) T (k := 0)).imp (spOf_imp sumh_law)
  have strt := (ok__law_straight (P := P) (w := w) (base := base) T (k := 0)).imp (spOf_imp straight_law)
  have dia := (ok_diamonds T rho sid).imp (spOf_imp dia_law)
  have hive := (ok_is_hive T (atp.mono (by decide)) dia (num.mono (by decide))).imp (spOf_imp hive_law)
  have check := (ok_check_hive T hive).imp (spOf_imp (check_law (K := K) (C := T.k_BadHive.C)))
  have bord := (ok_border T check).imp (spOf_imp bord_law)
  have turn := (ok_turned_hive T check).imp (spOf_imp turn_law)
  have raised := (ok__law_raised T bord turn).imp (spOf_imp (raised_law T.e_BadHive_ShapeError T.k_BadHive.ic))
  have keeps := (ok__law_keeps T dia2).imp (spOf_imp keeps_law)
  have lhive := (ok__law_is_hive T (num2.mono (by decide)) keeps).imp (spOf_imp lhive_law)
  have pick := (ok__law_pick T take).imp (spOf_imp pick_law)
  have below := (ok__law_below T take).imp (spOf_imp below_law)
  have given := (ok__law_given T take).imp (spOf_imp given_law)
  have fall := (ok__law_fall T below).imp (spOf_imp fall_law)
  have handed := (ok__law_handed T given).imp (spOf_imp handed_law)
  have some := (ok__law_some_hive T fall (sumh.mono (by decide)) (strt.mono (by decide)) (take.mono (by decide)) (lturn.mono (by decide))).imp (spOf_imp some_law)
  have nos : FnOk P w K mg base (L2.CX P w) 1 T.d__law_same.f T.d__law_same.fd ["actual", "due"] (spOf K fun _ _ _ => False) := fn_no.imp fun vs H Q E h => by
    obtain ⟨_, _, _, _, _, _, _, z, _⟩ := h
    exact z
  have same0 := (ok__law_same T num2 nos).imp (spOf_imp (same_law (d := 0) (sp := fun _ _ _ => False) fun d' e => by cases e))
  have same1 := (ok__law_same T (num2.mono (by decide)) same0).imp (spOf_imp (same_law (d := 1) fun d' e args Q E h => by cases e; exact h))
  have same2 := (ok__law_same T (num2.mono (by decide)) same1).imp (spOf_imp (same_law (d := 2) fun d' e args Q E h => by cases e; exact h))
  have spoilt := (ok__law_spoilt T given pick (take.mono (by decide))).imp (spOf_imp spoilt_law)
  exact (ok_law_end (k := 5) T (fun cdv A outer s H E hr => ok_law T (lbord.mono (by decide)) (handed.mono (by decide)) (lhive.mono (by decide)) (pick.mono (by decide)) raised (same2.mono (by decide)) (some.mono (by decide)) (spoilt.mono (by decide)) (take.mono (by decide)) (lturn.mono (by decide)) (bord.mono (by decide)) (hive.mono (by decide)) (turn.mono (by decide)) cdv A outer s H E hr) law_pure).mono (by decide)
theorem law_fin {P : Program} {w : World} {K : PySem.W.Frag} {mg : Str → Option Value} {fa : Addr} (T : Txt K mg) (hfa : mg "law" = some (.ref fa)) :
    ∃ fd : FuncData, (∀ (s : Shared) (v : Value), BindsTo s fd ⟨[v], []⟩ [("script", v)]) ∧ ∀ base : Heap, K.In base → base.Ns mainGlobals mg → FnOk P w K mg base (L2.CX P w) 12 fa fd ["script"] (spLaw K) := by
  have e := hfa.symm.trans T.d_law.g
  cases e
  refine ⟨T.d_law.fd, fun s v => ?_, fun base _ _ => ok_law_all T⟩
  obtain ⟨oc, od, kV, doc, pm, an, cdv, ct, osl, e, _, _⟩ := T.d_law.F.ex
  rw [e]
  exact .of_eq rfl
end
end K36

namespace K36
open PySem PySem.Spec PyProof.Rows L2 TLY
/-! ### the end -/
theorem exc_all {K : PySem.W.Frag} {h : Heap} {mg : Str → Option Value} {CShapeError CBadHive : Addr} (X : K.In h) (G : h.Ns mainGlobals mg)
    (a_ShapeError : PySem.W.nsIn K mainGlobals "ShapeError" = some (some (.ref CShapeError)))
    (q_ShapeError : PySem.W.excIn K CShapeError [.type "ValueError", .type "Exception", .type "BaseException", .type "object"] "ValueError.__new__" = true)
    (kp_ShapeError : PySem.W.keepIn K (.ref CShapeError) = true)
    (sb_ShapeError : PySem.W.subIn K (.ref CShapeError) (.type "BaseException") = some true)
    (tp_ShapeError : PySem.W.typeIn K (.ref CShapeError) = some (.type "type"))
    (h1_ShapeError : PySem.W.findIn K (.ref CShapeError) "__getattribute__" = some (some (.builtin "BaseException.__getattribute__")))
    (h2_ShapeError : PySem.W.findIn K (.ref CShapeError) "__getattr__" = some none)
    (h3_ShapeError : PySem.W.hasDictIn K CShapeError = true)
    (h4_ShapeError : PySem.W.findIn K (.ref CShapeError) "__class__" = some (some (.builtin "object.__class__")))
    (h5_ShapeError : PySem.W.specialIn K (.builtin "object.__class__") "__get__" = some (some (.builtin "getset_descriptor.__get__")))
    (h6_ShapeError : PySem.W.takesIn K (.builtin "object.__class__") = some true)
    (h7_ShapeError : PySem.W.mroIn K CShapeError (.type "object") = some true)
    (a_BadHive : PySem.W.nsIn K mainGlobals "BadHive" = some (some (.ref CBadHive)))
    (q_BadHive : PySem.W.excIn K CBadHive [.type "ValueError", .type "Exception", .type "BaseException", .type "object"] "ValueError.__new__" = true)
    (kp_BadHive : PySem.W.keepIn K (.ref CBadHive) = true)
    (sb_BadHive : PySem.W.subIn K (.ref CBadHive) (.type "BaseException") = some true)
    (tp_BadHive : PySem.W.typeIn K (.ref CBadHive) = some (.type "type"))
    (h1_BadHive : PySem.W.findIn K (.ref CBadHive) "__getattribute__" = some (some (.builtin "BaseException.__getattribute__")))
    (h2_BadHive : PySem.W.findIn K (.ref CBadHive) "__getattr__" = some none)
    (h3_BadHive : PySem.W.hasDictIn K CBadHive = true)
    (h4_BadHive : PySem.W.findIn K (.ref CBadHive) "__class__" = some (some (.builtin "object.__class__")))
    (h5_BadHive : PySem.W.specialIn K (.builtin "object.__class__") "__get__" = some (some (.builtin "getset_descriptor.__get__")))
    (h6_BadHive : PySem.W.takesIn K (.builtin "object.__class__") = some true)
    (h7_BadHive : PySem.W.mroIn K CBadHive (.type "object") = some true)
    (e_BadHive_ShapeError : PySem.W.exmOne K (.ref CBadHive) (.ref CShapeError) = some true)
    : ∃ (k_ShapeError : ExcAt K mg "ShapeError") (k_BadHive : ExcAt K mg "BadHive"), PySem.W.exmOne K (.ref k_BadHive.C) (.ref k_ShapeError.C) = some true ∧ True := by
  obtain ⟨k_ShapeError, rfl⟩ := excAt_mk (x := "ShapeError") X G a_ShapeError q_ShapeError kp_ShapeError sb_ShapeError tp_ShapeError h1_ShapeError h2_ShapeError h3_ShapeError h4_ShapeError h5_ShapeError h6_ShapeError h7_ShapeError
  obtain ⟨k_BadHive, rfl⟩ := excAt_mk (x := "BadHive") X G a_BadHive q_BadHive kp_BadHive sb_BadHive tp_BadHive h1_BadHive h2_BadHive h3_BadHive h4_BadHive h5_BadHive h6_BadHive h7_BadHive
  exact ⟨k_ShapeError, k_BadHive, e_BadHive_ShapeError, trivial⟩
theorem fin_mk {P : Program} {w : World} {K : PySem.W.Frag} {h : Heap} {mg : Str → Option Value} {fa : Addr} (X : K.In h) (G : h.Ns mainGlobals mg) (hfa : mg "law" = some (.ref fa))
    {f_is_number : Addr} {od_is_number an_is_number : Option Addr} {sl_is_number : Array (Option Value)} {oc_is_number kV_is_number dc_is_number pm_is_number cd_is_number ct_is_number : Value}
    {f_rhombi : Addr} {od_rhombi an_rhombi : Option Addr} {sl_rhombi : Array (Option Value)} {oc_rhombi kV_rhombi dc_rhombi pm_rhombi cd_rhombi ct_rhombi : Value}
    {f_sides_of : Addr} {od_sides_of an_sides_of : Option Addr} {sl_sides_of : Array (Option Value)} {oc_sides_of kV_sides_of dc_sides_of pm_sides_of cd_sides_of ct_sides_of : Value}
    {f_diamonds : Addr} {od_diamonds an_diamonds : Option Addr} {sl_diamonds : Array (Option Value)} {oc_diamonds kV_diamonds dc_diamonds pm_diamonds cd_diamonds ct_diamonds : Value}
    {f_at_place : Addr} {od_at_place an_at_place : Option Addr} {sl_at_place : Array (Option Value)} {oc_at_place kV_at_place dc_at_place pm_at_place cd_at_place ct_at_place : Value}
    {f_is_hive : Addr} {od_is_hive an_is_hive : Option Addr} {sl_is_hive : Array (Option Value)} {oc_is_hive kV_is_hive dc_is_hive pm_is_hive cd_is_hive ct_is_hive : Value}
    {f_check_hive : Addr} {od_check_hive an_check_hive : Option Addr} {sl_check_hive : Array (Option Value)} {oc_check_hive kV_check_hive dc_check_hive pm_check_hive cd_check_hive ct_check_hive : Value}
    {f_border : Addr} {od_border an_border : Option Addr} {sl_border : Array (Option Value)} {oc_border kV_border dc_border pm_border cd_border ct_border : Value}
    {f_turned_hive : Addr} {od_turned_hive an_turned_hive : Option Addr} {sl_turned_hive : Array (Option Value)} {oc_turned_hive kV_turned_hive dc_turned_hive pm_turned_hive cd_turned_hive ct_turned_hive : Value}
    {f__law_pool : Addr} {od__law_pool an__law_pool : Option Addr} {sl__law_pool : Array (Option Value)} {oc__law_pool kV__law_pool dc__law_pool pm__law_pool cd__law_pool ct__law_pool : Value}
    {f__law_take : Addr} {od__law_take an__law_take : Option Addr} {sl__law_take : Array (Option Value)} {oc__law_take kV__law_take dc__law_take pm__law_take cd__law_take ct__law_take : Value}
    {f__law_pick : Addr} {od__law_pick an__law_pick : Option Addr} {sl__law_pick : Array (Option Value)} {oc__law_pick kV__law_pick dc__law_pick pm__law_pick cd__law_pick ct__law_pick : Value}
    {f__law_is_integer : Addr} {od__law_is_integer an__law_is_integer : Option Addr} {sl__law_is_integer : Array (Option Value)} {oc__law_is_integer kV__law_is_integer dc__law_is_integer pm__law_is_integer cd__law_is_integer ct__law_is_integer : Value}
    {f__law_same : Addr} {od__law_same an__law_same : Option Addr} {sl__law_same : Array (Option Value)} {oc__law_same kV__law_same dc__law_same pm__law_same cd__law_same ct__law_same : Value}
    {f__law_below : Addr} {od__law_below an__law_below : Option Addr} {sl__law_below : Array (Option Value)} {oc__law_below kV__law_below dc__law_below pm__law_below cd__law_below ct__law_below : Value}
    {f__law_given : Addr} {od__law_given an__law_given : Option Addr} {sl__law_given : Array (Option Value)} {oc__law_given kV__law_given dc__law_given pm__law_given cd__law_given ct__law_given : Value}
    {f__law_diamonds : Addr} {od__law_diamonds an__law_diamonds : Option Addr} {sl__law_diamonds : Array (Option Value)} {oc__law_diamonds kV__law_diamonds dc__law_diamonds pm__law_diamonds cd__law_diamonds ct__law_diamonds : Value}
    {f__law_keeps : Addr} {od__law_keeps an__law_keeps : Option Addr} {sl__law_keeps : Array (Option Value)} {oc__law_keeps kV__law_keeps dc__law_keeps pm__law_keeps cd__law_keeps ct__law_keeps : Value}
    {f__law_is_hive : Addr} {od__law_is_hive an__law_is_hive : Option Addr} {sl__law_is_hive : Array (Option Value)} {oc__law_is_hive kV__law_is_hive dc__law_is_hive pm__law_is_hive cd__law_is_hive ct__law_is_hive : Value}
    {f__law_border : Addr} {od__law_border an__law_border : Option Addr} {sl__law_border : Array (Option Value)} {oc__law_border kV__law_border dc__law_border pm__law_border cd__law_border ct__law_border : Value}
    {f__law_turned : Addr} {od__law_turned an__law_turned : Option Addr} {sl__law_turned : Array (Option Value)} {oc__law_turned kV__law_turned dc__law_turned pm__law_turned cd__law_turned ct__law_turned : Value}
    {f__law_fall : Addr} {od__law_fall an__law_fall : Option Addr} {sl__law_fall : Array (Option Value)} {oc__law_fall kV__law_fall dc__law_fall pm__law_fall cd__law_fall ct__law_fall : Value}
    {f__law_straight : Addr} {od__law_straight an__law_straight : Option Addr} {sl__law_straight : Array (Option Value)} {oc__law_straight kV__law_straight dc__law_straight pm__law_straight cd__law_straight ct__law_straight : Value}
    {f__law_hive_sum : Addr} {od__law_hive_sum an__law_hive_sum : Option Addr} {sl__law_hive_sum : Array (Option Value)} {oc__law_hive_sum kV__law_hive_sum dc__law_hive_sum pm__law_hive_sum cd__law_hive_sum ct__law_hive_sum : Value}
    {f__law_some_hive : Addr} {od__law_some_hive an__law_some_hive : Option Addr} {sl__law_some_hive : Array (Option Value)} {oc__law_some_hive kV__law_some_hive dc__law_some_hive pm__law_some_hive cd__law_some_hive ct__law_some_hive : Value}
    {f__law_raised : Addr} {od__law_raised an__law_raised : Option Addr} {sl__law_raised : Array (Option Value)} {oc__law_raised kV__law_raised dc__law_raised pm__law_raised cd__law_raised ct__law_raised : Value}
    {f__law_handed : Addr} {od__law_handed an__law_handed : Option Addr} {sl__law_handed : Array (Option Value)} {oc__law_handed kV__law_handed dc__law_handed pm__law_handed cd__law_handed ct__law_handed : Value}
    {f__law_spoilt : Addr} {od__law_spoilt an__law_spoilt : Option Addr} {sl__law_spoilt : Array (Option Value)} {oc__law_spoilt kV__law_spoilt dc__law_spoilt pm__law_spoilt cd__law_spoilt ct__law_spoilt : Value}
    {f_law : Addr} {od_law an_law : Option Addr} {sl_law : Array (Option Value)} {oc_law kV_law dc_law pm_law cd_law ct_law : Value}
    {t_MOST : Tok}
    {CShapeError CBadHive : Addr}
    (a_is_number : PySem.W.nsIn K mainGlobals "is_number" = some (some (.ref f_is_number)))
    (l_is_number : K.lookup f_is_number = some ⟨oc_is_number, od_is_number, .func (PySem.W.fnOf "is_number" "is_number" (defArgs s_is_number) (defBody s_is_number) (defScope s_is_number) .none kV_is_number dc_is_number pm_is_number an_is_number cd_is_number ct_is_number), sl_is_number⟩)
    (c_is_number : PySem.W.codeIn K cd_is_number "is_number" = true) (k_is_number : PySem.W.keepIn K (.ref f_is_number) = true)
    (a_rhombi : PySem.W.nsIn K mainGlobals "rhombi" = some (some (.ref f_rhombi)))
    (l_rhombi : K.lookup f_rhombi = some ⟨oc_rhombi, od_rhombi, .func (PySem.W.fnOf "rhombi" "rhombi" (defArgs s_rhombi) (defBody s_rhombi) (defScope s_rhombi) .none kV_rhombi dc_rhombi pm_rhombi an_rhombi cd_rhombi ct_rhombi), sl_rhombi⟩)
    (c_rhombi : PySem.W.codeIn K cd_rhombi "rhombi" = true) (k_rhombi : PySem.W.keepIn K (.ref f_rhombi) = true)
    (a_sides_of : PySem.W.nsIn K mainGlobals "sides_of" = some (some (.ref f_sides_of)))
    (l_sides_of : K.lookup f_sides_of = some ⟨oc_sides_of, od_sides_of, .func (PySem.W.fnOf "sides_of" "sides_of" (defArgs s_sides_of) (defBody s_sides_of) (defScope s_sides_of) .none kV_sides_of dc_sides_of pm_sides_of an_sides_of cd_sides_of ct_sides_of), sl_sides_of⟩)
    (c_sides_of : PySem.W.codeIn K cd_sides_of "sides_of" = true) (k_sides_of : PySem.W.keepIn K (.ref f_sides_of) = true)
    (a_diamonds : PySem.W.nsIn K mainGlobals "diamonds" = some (some (.ref f_diamonds)))
    (l_diamonds : K.lookup f_diamonds = some ⟨oc_diamonds, od_diamonds, .func (PySem.W.fnOf "diamonds" "diamonds" (defArgs s_diamonds) (defBody s_diamonds) (defScope s_diamonds) .none kV_diamonds dc_diamonds pm_diamonds an_diamonds cd_diamonds ct_diamonds), sl_diamonds⟩)
    (c_diamonds : PySem.W.codeIn K cd_diamonds "diamonds" = true) (k_diamonds : PySem.W.keepIn K (.ref f_diamonds) = true)
    (a_at_place : PySem.W.nsIn K mainGlobals "at_place" = some (some (.ref f_at_place)))
    (l_at_place : K.lookup f_at_place = some ⟨oc_at_place, od_at_place, .func (PySem.W.fnOf "at_place" "at_place" (defArgs s_at_place) (defBody s_at_place) (defScope s_at_place) .none kV_at_place dc_at_place pm_at_place an_at_place cd_at_place ct_at_place), sl_at_place⟩)
    (c_at_place : PySem.W.codeIn K cd_at_place "at_place" = true) (k_at_place : PySem.W.keepIn K (.ref f_at_place) = true)
    (a_is_hive : PySem.W.nsIn K mainGlobals "is_hive" = some (some (.ref f_is_hive)))
    (l_is_hive : K.lookup f_is_hive = some ⟨oc_is_hive, od_is_hive, .func (PySem.W.fnOf "is_hive" "is_hive" (defArgs s_is_hive) (defBody s_is_hive) (defScope s_is_hive) .none kV_is_hive dc_is_hive pm_is_hive an_is_hive cd_is_hive ct_is_hive), sl_is_hive⟩)
    (c_is_hive : PySem.W.codeIn K cd_is_hive "is_hive" = true) (k_is_hive : PySem.W.keepIn K (.ref f_is_hive) = true)
    (a_check_hive : PySem.W.nsIn K mainGlobals "check_hive" = some (some (.ref f_check_hive)))
    (l_check_hive : K.lookup f_check_hive = some ⟨oc_check_hive, od_check_hive, .func (PySem.W.fnOf "check_hive" "check_hive" (defArgs s_check_hive) (defBody s_check_hive) (defScope s_check_hive) .none kV_check_hive dc_check_hive pm_check_hive an_check_hive cd_check_hive ct_check_hive), sl_check_hive⟩)
    (c_check_hive : PySem.W.codeIn K cd_check_hive "check_hive" = true) (k_check_hive : PySem.W.keepIn K (.ref f_check_hive) = true)
    (a_border : PySem.W.nsIn K mainGlobals "border" = some (some (.ref f_border)))
    (l_border : K.lookup f_border = some ⟨oc_border, od_border, .func (PySem.W.fnOf "border" "border" (defArgs s_border) (defBody s_border) (defScope s_border) .none kV_border dc_border pm_border an_border cd_border ct_border), sl_border⟩)
    (c_border : PySem.W.codeIn K cd_border "border" = true) (k_border : PySem.W.keepIn K (.ref f_border) = true)
    (a_turned_hive : PySem.W.nsIn K mainGlobals "turned_hive" = some (some (.ref f_turned_hive)))
    (l_turned_hive : K.lookup f_turned_hive = some ⟨oc_turned_hive, od_turned_hive, .func (PySem.W.fnOf "turned_hive" "turned_hive" (defArgs s_turned_hive) (defBody s_turned_hive) (defScope s_turned_hive) .none kV_turned_hive dc_turned_hive pm_turned_hive an_turned_hive cd_turned_hive ct_turned_hive), sl_turned_hive⟩)
    (c_turned_hive : PySem.W.codeIn K cd_turned_hive "turned_hive" = true) (k_turned_hive : PySem.W.keepIn K (.ref f_turned_hive) = true)
    (a__law_pool : PySem.W.nsIn K mainGlobals "_law_pool" = some (some (.ref f__law_pool)))
    (l__law_pool : K.lookup f__law_pool = some ⟨oc__law_pool, od__law_pool, .func (PySem.W.fnOf "_law_pool" "_law_pool" (defArgs s__law_pool) (defBody s__law_pool) (defScope s__law_pool) .none kV__law_pool dc__law_pool pm__law_pool an__law_pool cd__law_pool ct__law_pool), sl__law_pool⟩)
    (c__law_pool : PySem.W.codeIn K cd__law_pool "_law_pool" = true) (k__law_pool : PySem.W.keepIn K (.ref f__law_pool) = true)
    (a__law_take : PySem.W.nsIn K mainGlobals "_law_take" = some (some (.ref f__law_take)))
    (l__law_take : K.lookup f__law_take = some ⟨oc__law_take, od__law_take, .func (PySem.W.fnOf "_law_take" "_law_take" (defArgs s__law_take) (defBody s__law_take) (defScope s__law_take) .none kV__law_take dc__law_take pm__law_take an__law_take cd__law_take ct__law_take), sl__law_take⟩)
    (c__law_take : PySem.W.codeIn K cd__law_take "_law_take" = true) (k__law_take : PySem.W.keepIn K (.ref f__law_take) = true)
    (a__law_pick : PySem.W.nsIn K mainGlobals "_law_pick" = some (some (.ref f__law_pick)))
    (l__law_pick : K.lookup f__law_pick = some ⟨oc__law_pick, od__law_pick, .func (PySem.W.fnOf "_law_pick" "_law_pick" (defArgs s__law_pick) (defBody s__law_pick) (defScope s__law_pick) .none kV__law_pick dc__law_pick pm__law_pick an__law_pick cd__law_pick ct__law_pick), sl__law_pick⟩)
    (c__law_pick : PySem.W.codeIn K cd__law_pick "_law_pick" = true) (k__law_pick : PySem.W.keepIn K (.ref f__law_pick) = true)
    (a__law_is_integer : PySem.W.nsIn K mainGlobals "_law_is_integer" = some (some (.ref f__law_is_integer)))
    (l__law_is_integer : K.lookup f__law_is_integer = some ⟨oc__law_is_integer, od__law_is_integer, .func (PySem.W.fnOf "_law_is_integer" "_law_is_integer" (defArgs s__law_is_integer) (defBody s__law_is_integer) (defScope s__law_is_integer) .none kV__law_is_integer dc__law_is_integer pm__law_is_integer an__law_is_integer cd__law_is_integer ct__law_is_integer), sl__law_is_integer⟩)
    (c__law_is_integer : PySem.W.codeIn K cd__law_is_integer "_law_is_integer" = true) (k__law_is_integer : PySem.W.keepIn K (.ref f__law_is_integer) = true)
    (a__law_same : PySem.W.nsIn K mainGlobals "_law_same" = some (some (.ref f__law_same)))
    (l__law_same : K.lookup f__law_same = some ⟨oc__law_same, od__law_same, .func (PySem.W.fnOf "_law_same" "_law_same" (defArgs s__law_same) (defBody s__law_same) (defScope s__law_same) .none kV__law_same dc__law_same pm__law_same an__law_same cd__law_same ct__law_same), sl__law_same⟩)
    (c__law_same : PySem.W.codeIn K cd__law_same "_law_same" = true) (k__law_same : PySem.W.keepIn K (.ref f__law_same) = true)
    (a__law_below : PySem.W.nsIn K mainGlobals "_law_below" = some (some (.ref f__law_below)))
    (l__law_below : K.lookup f__law_below = some ⟨oc__law_below, od__law_below, .func (PySem.W.fnOf "_law_below" "_law_below" (defArgs s__law_below) (defBody s__law_below) (defScope s__law_below) .none kV__law_below dc__law_below pm__law_below an__law_below cd__law_below ct__law_below), sl__law_below⟩)
    (c__law_below : PySem.W.codeIn K cd__law_below "_law_below" = true) (k__law_below : PySem.W.keepIn K (.ref f__law_below) = true)
    (a__law_given : PySem.W.nsIn K mainGlobals "_law_given" = some (some (.ref f__law_given)))
    (l__law_given : K.lookup f__law_given = some ⟨oc__law_given, od__law_given, .func (PySem.W.fnOf "_law_given" "_law_given" (defArgs s__law_given) (defBody s__law_given) (defScope s__law_given) .none kV__law_given dc__law_given pm__law_given an__law_given cd__law_given ct__law_given), sl__law_given⟩)
    (c__law_given : PySem.W.codeIn K cd__law_given "_law_given" = true) (k__law_given : PySem.W.keepIn K (.ref f__law_given) = true)
    (a__law_diamonds : PySem.W.nsIn K mainGlobals "_law_diamonds" = some (some (.ref f__law_diamonds)))
    (l__law_diamonds : K.lookup f__law_diamonds = some ⟨oc__law_diamonds, od__law_diamonds, .func (PySem.W.fnOf "_law_diamonds" "_law_diamonds" (defArgs s__law_diamonds) (defBody s__law_diamonds) (defScope s__law_diamonds) .none kV__law_diamonds dc__law_diamonds pm__law_diamonds an__law_diamonds cd__law_diamonds ct__law_diamonds), sl__law_diamonds⟩)
    (c__law_diamonds : PySem.W.codeIn K cd__law_diamonds "_law_diamonds" = true) (k__law_diamonds : PySem.W.keepIn K (.ref f__law_diamonds) = true)
    (a__law_keeps : PySem.W.nsIn K mainGlobals "_law_keeps" = some (some (.ref f__law_keeps)))
    (l__law_keeps : K.lookup f__law_keeps = some ⟨oc__law_keeps, od__law_keeps, .func (PySem.W.fnOf "_law_keeps" "_law_keeps" (defArgs s__law_keeps) (defBody s__law_keeps) (defScope s__law_keeps) .none kV__law_keeps dc__law_keeps pm__law_keeps an__law_keeps cd__law_keeps ct__law_keeps), sl__law_keeps⟩)
    (c__law_keeps : PySem.W.codeIn K cd__law_keeps "_law_keeps" = true) (k__law_keeps : PySem.W.keepIn K (.ref f__law_keeps) = true)
    (a__law_is_hive : PySem.W.nsIn K mainGlobals "_law_is_hive" = some (some (.ref f__law_is_hive)))
    (l__law_is_hive : K.lookup f__law_is_hive = some ⟨oc__law_is_hive, od__law_is_hive, .func (PySem.W.fnOf "_law_is_hive" "_law_is_hive" (defArgs s__law_is_hive) (defBody s__law_is_hive) (defScope s__law_is_hive) .none kV__law_is_hive dc__law_is_hive pm__law_is_hive an__law_is_hive cd__law_is_hive ct__law_is_hive), sl__law_is_hive⟩)
    (c__law_is_hive : PySem.W.codeIn K cd__law_is_hive "_law_is_hive" = true) (k__law_is_hive : PySem.W.keepIn K (.ref f__law_is_hive) = true)
    (a__law_border : PySem.W.nsIn K mainGlobals "_law_border" = some (some (.ref f__law_border)))
    (l__law_border : K.lookup f__law_border = some ⟨oc__law_border, od__law_border, .func (PySem.W.fnOf "_law_border" "_law_border" (defArgs s__law_border) (defBody s__law_border) (defScope s__law_border) .none kV__law_border dc__law_border pm__law_border an__law_border cd__law_border ct__law_border), sl__law_border⟩)
    (c__law_border : PySem.W.codeIn K cd__law_border "_law_border" = true) (k__law_border : PySem.W.keepIn K (.ref f__law_border) = true)
    (a__law_turned : PySem.W.nsIn K mainGlobals "_law_turned" = some (some (.ref f__law_turned)))
    (l__law_turned : K.lookup f__law_turned = some ⟨oc__law_turned, od__law_turned, .func (PySem.W.fnOf "_law_turned" "_law_turned" (defArgs s__law_turned) (defBody s__law_turned) (defScope s__law_turned) .none kV__law_turned dc__law_turned pm__law_turned an__law_turned cd__law_turned ct__law_turned), sl__law_turned⟩)
    (c__law_turned : PySem.W.codeIn K cd__law_turned "_law_turned" = true) (k__law_turned : PySem.W.keepIn K (.ref f__law_turned) = true)
    (a__law_fall : PySem.W.nsIn K mainGlobals "_law_fall" = some (some (.ref f__law_fall)))
    (l__law_fall : K.lookup f__law_fall = some ⟨oc__law_fall, od__law_fall, .func (PySem.W.fnOf "_law_fall" "_law_fall" (defArgs s__law_fall) (defBody s__law_fall) (defScope s__law_fall) .none kV__law_fall dc__law_fall pm__law_fall an__law_fall cd__law_fall ct__law_fall), sl__law_fall⟩)
    (c__law_fall : PySem.W.codeIn K cd__law_fall "_law_fall" = true) (k__law_fall : PySem.W.keepIn K (.ref f__law_fall) = true)
    (a__law_straight : PySem.W.nsIn K mainGlobals "_law_straight" = some (some (.ref f__law_straight)))
    (l__law_straight : K.lookup f__law_straight = some ⟨oc__law_straight, od__law_straight, .func (PySem.W.fnOf "_law_straight" "_law_straight" (defArgs s__law_straight) (defBody s__law_straight) (defScope s__law_straight) .none kV__law_straight dc__law_straight pm__law_straight an__law_straight cd__law_straight ct__law_straight), sl__law_straight⟩)
    (c__law_straight : PySem.W.codeIn K cd__law_straight "_law_straight" = true) (k__law_straight : PySem.W.keepIn K (.ref f__law_straight) = true)
    (a__law_hive_sum : PySem.W.nsIn K mainGlobals "_law_hive_sum" = some (some (.ref f__law_hive_sum)))
    (l__law_hive_sum : K.lookup f__law_hive_sum = some ⟨oc__law_hive_sum, od__law_hive_sum, .func (PySem.W.fnOf "_law_hive_sum" "_law_hive_sum" (defArgs s__law_hive_sum) (defBody s__law_hive_sum) (defScope s__law_hive_sum) .none kV__law_hive_sum dc__law_hive_sum pm__law_hive_sum an__law_hive_sum cd__law_hive_sum ct__law_hive_sum), sl__law_hive_sum⟩)
    (c__law_hive_sum : PySem.W.codeIn K cd__law_hive_sum "_law_hive_sum" = true) (k__law_hive_sum : PySem.W.keepIn K (.ref f__law_hive_sum) = true)
    (a__law_some_hive : PySem.W.nsIn K mainGlobals "_law_some_hive" = some (some (.ref f__law_some_hive)))
    (l__law_some_hive : K.lookup f__law_some_hive = some ⟨oc__law_some_hive, od__law_some_hive, .func (PySem.W.fnOf "_law_some_hive" "_law_some_hive" (defArgs s__law_some_hive) (defBody s__law_some_hive) (defScope s__law_some_hive) .none kV__law_some_hive dc__law_some_hive pm__law_some_hive an__law_some_hive cd__law_some_hive ct__law_some_hive), sl__law_some_hive⟩)
    (c__law_some_hive : PySem.W.codeIn K cd__law_some_hive "_law_some_hive" = true) (k__law_some_hive : PySem.W.keepIn K (.ref f__law_some_hive) = true)
    (a__law_raised : PySem.W.nsIn K mainGlobals "_law_raised" = some (some (.ref f__law_raised)))
    (l__law_raised : K.lookup f__law_raised = some ⟨oc__law_raised, od__law_raised, .func (PySem.W.fnOf "_law_raised" "_law_raised" (defArgs s__law_raised) (defBody s__law_raised) (defScope s__law_raised) .none kV__law_raised dc__law_raised pm__law_raised an__law_raised cd__law_raised ct__law_raised), sl__law_raised⟩)
    (c__law_raised : PySem.W.codeIn K cd__law_raised "_law_raised" = true) (k__law_raised : PySem.W.keepIn K (.ref f__law_raised) = true)
    (a__law_handed : PySem.W.nsIn K mainGlobals "_law_handed" = some (some (.ref f__law_handed)))
    (l__law_handed : K.lookup f__law_handed = some ⟨oc__law_handed, od__law_handed, .func (PySem.W.fnOf "_law_handed" "_law_handed" (defArgs s__law_handed) (defBody s__law_handed) (defScope s__law_handed) .none kV__law_handed dc__law_handed pm__law_handed an__law_handed cd__law_handed ct__law_handed), sl__law_handed⟩)
    (c__law_handed : PySem.W.codeIn K cd__law_handed "_law_handed" = true) (k__law_handed : PySem.W.keepIn K (.ref f__law_handed) = true)
    (a__law_spoilt : PySem.W.nsIn K mainGlobals "_law_spoilt" = some (some (.ref f__law_spoilt)))
    (l__law_spoilt : K.lookup f__law_spoilt = some ⟨oc__law_spoilt, od__law_spoilt, .func (PySem.W.fnOf "_law_spoilt" "_law_spoilt" (defArgs s__law_spoilt) (defBody s__law_spoilt) (defScope s__law_spoilt) .none kV__law_spoilt dc__law_spoilt pm__law_spoilt an__law_spoilt cd__law_spoilt ct__law_spoilt), sl__law_spoilt⟩)
    (c__law_spoilt : PySem.W.codeIn K cd__law_spoilt "_law_spoilt" = true) (k__law_spoilt : PySem.W.keepIn K (.ref f__law_spoilt) = true)
    (a_law : PySem.W.nsIn K mainGlobals "law" = some (some (.ref f_law)))
    (l_law : K.lookup f_law = some ⟨oc_law, od_law, .func (PySem.W.fnOf "law" "law" (defArgs s_law) (defBody s_law) (defScope s_law) .none kV_law dc_law pm_law an_law cd_law ct_law), sl_law⟩)
    (c_law : PySem.W.codeIn K cd_law "law" = true) (k_law : PySem.W.keepIn K (.ref f_law) = true)
    (z_all : PySem.W.nsIn K mainGlobals "all" = some none)
    (z_any : PySem.W.nsIn K mainGlobals "any" = some none)
    (z_bool : PySem.W.nsIn K mainGlobals "bool" = some none)
    (z_enumerate : PySem.W.nsIn K mainGlobals "enumerate" = some none)
    (z_int : PySem.W.nsIn K mainGlobals "int" = some none)
    (z_isinstance : PySem.W.nsIn K mainGlobals "isinstance" = some none)
    (z_len : PySem.W.nsIn K mainGlobals "len" = some none)
    (z_list : PySem.W.nsIn K mainGlobals "list" = some none)
    (z_range : PySem.W.nsIn K mainGlobals "range" = some none)
    (z_sorted : PySem.W.nsIn K mainGlobals "sorted" = some none)
    (z_str : PySem.W.nsIn K mainGlobals "str" = some none)
    (z_sum : PySem.W.nsIn K mainGlobals "sum" = some none)
    (z_tuple : PySem.W.nsIn K mainGlobals "tuple" = some none)
    (v_MOST : PySem.W.nsIn K mainGlobals "MOST" = some (some (.int 6 t_MOST)))
    (a_ShapeError : PySem.W.nsIn K mainGlobals "ShapeError" = some (some (.ref CShapeError)))
    (q_ShapeError : PySem.W.excIn K CShapeError [.type "ValueError", .type "Exception", .type "BaseException", .type "object"] "ValueError.__new__" = true)
    (kp_ShapeError : PySem.W.keepIn K (.ref CShapeError) = true)
    (sb_ShapeError : PySem.W.subIn K (.ref CShapeError) (.type "BaseException") = some true)
    (tp_ShapeError : PySem.W.typeIn K (.ref CShapeError) = some (.type "type"))
    (h1_ShapeError : PySem.W.findIn K (.ref CShapeError) "__getattribute__" = some (some (.builtin "BaseException.__getattribute__")))
    (h2_ShapeError : PySem.W.findIn K (.ref CShapeError) "__getattr__" = some none)
    (h3_ShapeError : PySem.W.hasDictIn K CShapeError = true)
    (h4_ShapeError : PySem.W.findIn K (.ref CShapeError) "__class__" = some (some (.builtin "object.__class__")))
    (h5_ShapeError : PySem.W.specialIn K (.builtin "object.__class__") "__get__" = some (some (.builtin "getset_descriptor.__get__")))
    (h6_ShapeError : PySem.W.takesIn K (.builtin "object.__class__") = some true)
    (h7_ShapeError : PySem.W.mroIn K CShapeError (.type "object") = some true)
    (a_BadHive : PySem.W.nsIn K mainGlobals "BadHive" = some (some (.ref CBadHive)))
    (q_BadHive : PySem.W.excIn K CBadHive [.type "ValueError", .type "Exception", .type "BaseException", .type "object"] "ValueError.__new__" = true)
    (kp_BadHive : PySem.W.keepIn K (.ref CBadHive) = true)
    (sb_BadHive : PySem.W.subIn K (.ref CBadHive) (.type "BaseException") = some true)
    (tp_BadHive : PySem.W.typeIn K (.ref CBadHive) = some (.type "type"))
    (h1_BadHive : PySem.W.findIn K (.ref CBadHive) "__getattribute__" = some (some (.builtin "BaseException.__getattribute__")))
    (h2_BadHive : PySem.W.findIn K (.ref CBadHive) "__getattr__" = some none)
    (h3_BadHive : PySem.W.hasDictIn K CBadHive = true)
    (h4_BadHive : PySem.W.findIn K (.ref CBadHive) "__class__" = some (some (.builtin "object.__class__")))
    (h5_BadHive : PySem.W.specialIn K (.builtin "object.__class__") "__get__" = some (some (.builtin "getset_descriptor.__get__")))
    (h6_BadHive : PySem.W.takesIn K (.builtin "object.__class__") = some true)
    (h7_BadHive : PySem.W.mroIn K CBadHive (.type "object") = some true)
    (i_ShapeError : PySem.W.isClsIn K CShapeError = true)
    (s_BadHive_ShapeError : PySem.W.subIn K (.ref CBadHive) (.ref CShapeError) = some true) :
    ∃ fd : FuncData, (∀ (s : Shared) (v : Value), BindsTo s fd ⟨[v], []⟩ [("script", v)]) ∧ ∀ base : Heap, K.In base → base.Ns mainGlobals mg → FnOk P w K mg base (L2.CX P w) 12 fa fd ["script"] (spLaw K) := by
  obtain ⟨d_is_number⟩ := defAt_mk (x := "is_number") (st := s_is_number) (ps := ["value"]) X G (fun _ _ _ _ _ _ us hl => match us, hl with | [_], _ => rfl) a_is_number l_is_number c_is_number k_is_number
  obtain ⟨d_rhombi⟩ := defAt_mk (x := "rhombi") (st := s_rhombi) (ps := ["n"]) X G (fun _ _ _ _ _ _ us hl => match us, hl with | [_], _ => rfl) a_rhombi l_rhombi c_rhombi k_rhombi
  obtain ⟨d_sides_of⟩ := defAt_mk (x := "sides_of") (st := s_sides_of) (ps := ["rhombus"]) X G (fun _ _ _ _ _ _ us hl => match us, hl with | [_], _ => rfl) a_sides_of l_sides_of c_sides_of k_sides_of
  obtain ⟨d_diamonds⟩ := defAt_mk (x := "diamonds") (st := s_diamonds) (ps := ["n"]) X G (fun _ _ _ _ _ _ us hl => match us, hl with | [_], _ => rfl) a_diamonds l_diamonds c_diamonds k_diamonds
  obtain ⟨d_at_place⟩ := defAt_mk (x := "at_place") (st := s_at_place) (ps := ["hive", "place"]) X G (fun _ _ _ _ _ _ us hl => match us, hl with | [_, _], _ => rfl) a_at_place l_at_place c_at_place k_at_place
  obtain ⟨d_is_hive⟩ := defAt_mk (x := "is_hive") (st := s_is_hive) (ps := ["hive"]) X G (fun _ _ _ _ _ _ us hl => match us, hl with | [_], _ => rfl) a_is_hive l_is_hive c_is_hive k_is_hive
  obtain ⟨d_check_hive⟩ := defAt_mk (x := "check_hive") (st := s_check_hive) (ps := ["hive"]) X G (fun _ _ _ _ _ _ us hl => match us, hl with | [_], _ => rfl) a_check_hive l_check_hive c_check_hive k_check_hive
  obtain ⟨d_border⟩ := defAt_mk (x := "border") (st := s_border) (ps := ["hive"]) X G (fun _ _ _ _ _ _ us hl => match us, hl with | [_], _ => rfl) a_border l_border c_border k_border
  obtain ⟨d_turned_hive⟩ := defAt_mk (x := "turned_hive") (st := s_turned_hive) (ps := ["hive"]) X G (fun _ _ _ _ _ _ us hl => match us, hl with | [_], _ => rfl) a_turned_hive l_turned_hive c_turned_hive k_turned_hive
  obtain ⟨d__law_pool⟩ := defAt_mk (x := "_law_pool") (st := s__law_pool) (ps := ["script"]) X G (fun _ _ _ _ _ _ us hl => match us, hl with | [_], _ => rfl) a__law_pool l__law_pool c__law_pool k__law_pool
  obtain ⟨d__law_take⟩ := defAt_mk (x := "_law_take") (st := s__law_take) (ps := ["pool", "many"]) X G (fun _ _ _ _ _ _ us hl => match us, hl with | [_, _], _ => rfl) a__law_take l__law_take c__law_take k__law_take
  obtain ⟨d__law_pick⟩ := defAt_mk (x := "_law_pick") (st := s__law_pick) (ps := ["pool", "rows"]) X G (fun _ _ _ _ _ _ us hl => match us, hl with | [_, _], _ => rfl) a__law_pick l__law_pick c__law_pick k__law_pick
  obtain ⟨d__law_is_integer⟩ := defAt_mk (x := "_law_is_integer") (st := s__law_is_integer) (ps := ["actual"]) X G (fun _ _ _ _ _ _ us hl => match us, hl with | [_], _ => rfl) a__law_is_integer l__law_is_integer c__law_is_integer k__law_is_integer
  obtain ⟨d__law_same⟩ := defAt_mk (x := "_law_same") (st := s__law_same) (ps := ["actual", "due"]) X G (fun _ _ _ _ _ _ us hl => match us, hl with | [_, _], _ => rfl) a__law_same l__law_same c__law_same k__law_same
  obtain ⟨d__law_below⟩ := defAt_mk (x := "_law_below") (st := s__law_below) (ps := ["pool", "many"]) X G (fun _ _ _ _ _ _ us hl => match us, hl with | [_, _], _ => rfl) a__law_below l__law_below c__law_below k__law_below
  obtain ⟨d__law_given⟩ := defAt_mk (x := "_law_given") (st := s__law_given) (ps := ["pool", "row"]) X G (fun _ _ _ _ _ _ us hl => match us, hl with | [_, _], _ => rfl) a__law_given l__law_given c__law_given k__law_given
  obtain ⟨d__law_diamonds⟩ := defAt_mk (x := "_law_diamonds") (st := s__law_diamonds) (ps := ["n"]) X G (fun _ _ _ _ _ _ us hl => match us, hl with | [_], _ => rfl) a__law_diamonds l__law_diamonds c__law_diamonds k__law_diamonds
  obtain ⟨d__law_keeps⟩ := defAt_mk (x := "_law_keeps") (st := s__law_keeps) (ps := ["hive"]) X G (fun _ _ _ _ _ _ us hl => match us, hl with | [_], _ => rfl) a__law_keeps l__law_keeps c__law_keeps k__law_keeps
  obtain ⟨d__law_is_hive⟩ := defAt_mk (x := "_law_is_hive") (st := s__law_is_hive) (ps := ["thing"]) X G (fun _ _ _ _ _ _ us hl => match us, hl with | [_], _ => rfl) a__law_is_hive l__law_is_hive c__law_is_hive k__law_is_hive
  obtain ⟨d__law_border⟩ := defAt_mk (x := "_law_border") (st := s__law_border) (ps := ["hive"]) X G (fun _ _ _ _ _ _ us hl => match us, hl with | [_], _ => rfl) a__law_border l__law_border c__law_border k__law_border
  obtain ⟨d__law_turned⟩ := defAt_mk (x := "_law_turned") (st := s__law_turned) (ps := ["hive"]) X G (fun _ _ _ _ _ _ us hl => match us, hl with | [_], _ => rfl) a__law_turned l__law_turned c__law_turned k__law_turned
  obtain ⟨d__law_fall⟩ := defAt_mk (x := "_law_fall") (st := s__law_fall) (ps := ["pool", "n", "size"]) X G (fun _ _ _ _ _ _ us hl => match us, hl with | [_, _, _], _ => rfl) a__law_fall l__law_fall c__law_fall k__law_fall
  obtain ⟨d__law_straight⟩ := defAt_mk (x := "_law_straight") (st := s__law_straight) (ps := ["one", "other"]) X G (fun _ _ _ _ _ _ us hl => match us, hl with | [_, _], _ => rfl) a__law_straight l__law_straight c__law_straight k__law_straight
  obtain ⟨d__law_hive_sum⟩ := defAt_mk (x := "_law_hive_sum") (st := s__law_hive_sum) (ps := ["one", "other"]) X G (fun _ _ _ _ _ _ us hl => match us, hl with | [_, _], _ => rfl) a__law_hive_sum l__law_hive_sum c__law_hive_sum k__law_hive_sum
  obtain ⟨d__law_some_hive⟩ := defAt_mk (x := "_law_some_hive") (st := s__law_some_hive) (ps := ["pool", "n", "size"]) X G (fun _ _ _ _ _ _ us hl => match us, hl with | [_, _, _], _ => rfl) a__law_some_hive l__law_some_hive c__law_some_hive k__law_some_hive
  obtain ⟨d__law_raised⟩ := defAt_mk (x := "_law_raised") (st := s__law_raised) (ps := ["call", "thing"]) X G (fun _ _ _ _ _ _ us hl => match us, hl with | [_, _], _ => rfl) a__law_raised l__law_raised c__law_raised k__law_raised
  obtain ⟨d__law_handed⟩ := defAt_mk (x := "_law_handed") (st := s__law_handed) (ps := ["pool", "hive"]) X G (fun _ _ _ _ _ _ us hl => match us, hl with | [_, _], _ => rfl) a__law_handed l__law_handed c__law_handed k__law_handed
  obtain ⟨d__law_spoilt⟩ := defAt_mk (x := "_law_spoilt") (st := s__law_spoilt) (ps := ["pool", "hive"]) X G (fun _ _ _ _ _ _ us hl => match us, hl with | [_, _], _ => rfl) a__law_spoilt l__law_spoilt c__law_spoilt k__law_spoilt
  obtain ⟨d_law⟩ := defAt_mk (x := "law") (st := s_law) (ps := ["script"]) X G (fun _ _ _ _ _ _ us hl => match us, hl with | [_], _ => rfl) a_law l_law c_law k_law
  obtain ⟨k_ShapeError, k_BadHive, e_BadHive_ShapeError, _⟩ := exc_all (mg := mg) X G a_ShapeError q_ShapeError kp_ShapeError sb_ShapeError tp_ShapeError h1_ShapeError h2_ShapeError h3_ShapeError h4_ShapeError h5_ShapeError h6_ShapeError h7_ShapeError a_BadHive q_BadHive kp_BadHive sb_BadHive tp_BadHive h1_BadHive h2_BadHive h3_BadHive h4_BadHive h5_BadHive h6_BadHive h7_BadHive (exm_mk sb_ShapeError i_ShapeError tp_ShapeError s_BadHive_ShapeError)
  exact law_fin { d_is_number := d_is_number, d_rhombi := d_rhombi, d_sides_of := d_sides_of, d_diamonds := d_diamonds, d_at_place := d_at_place, d_is_hive := d_is_hive, d_check_hive := d_check_hive, d_border := d_border, d_turned_hive := d_turned_hive, d__law_pool := d__law_pool, d__law_take := d__law_take, d__law_pick := d__law_pick, d__law_is_integer := d__law_is_integer, d__law_same := d__law_same, d__law_below := d__law_below, d__law_given := d__law_given, d__law_diamonds := d__law_diamonds, d__law_keeps := d__law_keeps, d__law_is_hive := d__law_is_hive, d__law_border := d__law_border, d__law_turned := d__law_turned, d__law_fall := d__law_fall, d__law_straight := d__law_straight, d__law_hive_sum := d__law_hive_sum, d__law_some_hive := d__law_some_hive, d__law_raised := d__law_raised, d__law_handed := d__law_handed, d__law_spoilt := d__law_spoilt, d_law := d_law, n_all := PySem.W.mg_none_of X G z_all, n_any := PySem.W.mg_none_of X G z_any, n_bool := PySem.W.mg_none_of X G z_bool, n_enumerate := PySem.W.mg_none_of X G z_enumerate, n_int := PySem.W.mg_none_of X G z_int, n_isinstance := PySem.W.mg_none_of X G z_isinstance, n_len := PySem.W.mg_none_of X G z_len, n_list := PySem.W.mg_none_of X G z_list, n_range := PySem.W.mg_none_of X G z_range, n_sorted := PySem.W.mg_none_of X G z_sorted, n_str := PySem.W.mg_none_of X G z_str, n_sum := PySem.W.mg_none_of X G z_sum, n_tuple := PySem.W.mg_none_of X G z_tuple, k_MOST := t_MOST, c_MOST := PySem.W.mg_of X G v_MOST, k_ShapeError := k_ShapeError, k_BadHive := k_BadHive, e_BadHive_ShapeError := e_BadHive_ShapeError } hfa
end K36
open PySem PySem.W PyProof.Rows TLY
set_option maxRecDepth 100000 in
set_option maxHeartbeats 0 in
theorem PySem.Challenge.cw_tableauproved_k36_whole_hives_and_border_holds : PySem.Challenge.rw_tableauproved_k36_whole_hives_and_border.Holds := by
  w_on; o_law; k_head; (case hw => w_witness2)
  k_fill
  refine L2.walk_of (l := PySem.Challenge.rw_tableauproved_k36_whole_hives_and_border) (n := 63) (k := 12) (x := "script") (CX := fun w => L2.CX PySem.Challenge.pw_tableauproved_k36_whole_hives_and_border w) (sp := fun w => K36.spLaw _) rfl (by decide) rfl ⟨rfl, by decide, by decide⟩ (fun w h Y => PySem.W.kIn_of Y) ?F (fun _ _ a ns hl _ hS => ⟨a, ns, rfl, hS, by rw [sizeLine_eq]; omega, fun _ => rfl⟩) (fun _ _ _ _ _ h => by obtain ⟨_, _, _, _, _, _, _, _, _, _, _, _, z⟩ := h; exact z)
  case F =>
    intro w mg fa h KX G hmg
    refine' K36.fin_mk KX G hmg ?a_is_number ?l_is_number ?c_is_number ?k_is_number ?a_rhombi ?l_rhombi ?c_rhombi ?k_rhombi ?a_sides_of ?l_sides_of ?c_sides_of ?k_sides_of ?a_diamonds ?l_diamonds ?c_diamonds ?k_diamonds ?a_at_place ?l_at_place ?c_at_place ?k_at_place ?a_is_hive ?l_is_hive ?c_is_hive ?k_is_hive ?a_check_hive ?l_check_hive ?c_check_hive ?k_check_hive ?a_border ?l_border ?c_border ?k_border ?a_turned_hive ?l_turned_hive ?c_turned_hive ?k_turned_hive ?a__law_pool ?l__law_pool ?c__law_pool ?k__law_pool ?a__law_take ?l__law_take ?c__law_take ?k__law_take ?a__law_pick ?l__law_pick ?c__law_pick ?k__law_pick ?a__law_is_integer ?l__law_is_integer ?c__law_is_integer ?k__law_is_integer ?a__law_same ?l__law_same ?c__law_same ?k__law_same ?a__law_below ?l__law_below ?c__law_below ?k__law_below ?a__law_given ?l__law_given ?c__law_given ?k__law_given ?a__law_diamonds ?l__law_diamonds ?c__law_diamonds ?k__law_diamonds ?a__law_keeps ?l__law_keeps ?c__law_keeps ?k__law_keeps ?a__law_is_hive ?l__law_is_hive ?c__law_is_hive ?k__law_is_hive ?a__law_border ?l__law_border ?c__law_border ?k__law_border ?a__law_turned ?l__law_turned ?c__law_turned ?k__law_turned ?a__law_fall ?l__law_fall ?c__law_fall ?k__law_fall ?a__law_straight ?l__law_straight ?c__law_straight ?k__law_straight ?a__law_hive_sum ?l__law_hive_sum ?c__law_hive_sum ?k__law_hive_sum ?a__law_some_hive ?l__law_some_hive ?c__law_some_hive ?k__law_some_hive ?a__law_raised ?l__law_raised ?c__law_raised ?k__law_raised ?a__law_handed ?l__law_handed ?c__law_handed ?k__law_handed ?a__law_spoilt ?l__law_spoilt ?c__law_spoilt ?k__law_spoilt ?a_law ?l_law ?c_law ?k_law ?z_all ?z_any ?z_bool ?z_enumerate ?z_int ?z_isinstance ?z_len ?z_list ?z_range ?z_sorted ?z_str ?z_sum ?z_tuple ?v_MOST ?a_ShapeError ?q_ShapeError ?kp_ShapeError ?sb_ShapeError ?tp_ShapeError ?h1_ShapeError ?h2_ShapeError ?h3_ShapeError ?h4_ShapeError ?h5_ShapeError ?h6_ShapeError ?h7_ShapeError ?a_BadHive ?q_BadHive ?kp_BadHive ?sb_BadHive ?tp_BadHive ?h1_BadHive ?h2_BadHive ?h3_BadHive ?h4_BadHive ?h5_BadHive ?h6_BadHive ?h7_BadHive ?i_ShapeError ?s_BadHive_ShapeError
    (case a_is_number => first | k_is | rfl); (case l_is_number => first | k_is | rfl); (case c_is_number => first | k_is | rfl); (case k_is_number => first | k_is | rfl); (case a_rhombi => first | k_is | rfl); (case l_rhombi => first | k_is | rfl); (case c_rhombi => first | k_is | rfl); (case k_rhombi => first | k_is | rfl)
    (case a_sides_of => first | k_is | rfl); (case l_sides_of => first | k_is | rfl); (case c_sides_of => first | k_is | rfl); (case k_sides_of => first | k_is | rfl); (case a_diamonds => first | k_is | rfl); (case l_diamonds => first | k_is | rfl); (case c_diamonds => first | k_is | rfl); (case k_diamonds => first | k_is | rfl)
    (case a_at_place => first | k_is | rfl); (case l_at_place => first | k_is | rfl); (case c_at_place => first | k_is | rfl); (case k_at_place => first | k_is | rfl); (case a_is_hive => first | k_is | rfl); (case l_is_hive => first | k_is | rfl); (case c_is_hive => first | k_is | rfl); (case k_is_hive => first | k_is | rfl)
    (case a_check_hive => first | k_is | rfl); (case l_check_hive => first | k_is | rfl); (case c_check_hive => first | k_is | rfl); (case k_check_hive => first | k_is | rfl); (case a_border => first | k_is | rfl); (case l_border => first | k_is | rfl); (case c_border => first | k_is | rfl); (case k_border => first | k_is | rfl)
    (case a_turned_hive => first | k_is | rfl); (case l_turned_hive => first | k_is | rfl); (case c_turned_hive => first | k_is | rfl); (case k_turned_hive => first | k_is | rfl); (case a__law_pool => first | k_is | rfl); (case l__law_pool => first | k_is | rfl); (case c__law_pool => first | k_is | rfl); (case k__law_pool => first | k_is | rfl)
    (case a__law_take => first | k_is | rfl); (case l__law_take => first | k_is | rfl); (case c__law_take => first | k_is | rfl); (case k__law_take => first | k_is | rfl); (case a__law_pick => first | k_is | rfl); (case l__law_pick => first | k_is | rfl); (case c__law_pick => first | k_is | rfl); (case k__law_pick => first | k_is | rfl)
    (case a__law_is_integer => first | k_is | rfl); (case l__law_is_integer => first | k_is | rfl); (case c__law_is_integer => first | k_is | rfl); (case k__law_is_integer => first | k_is | rfl); (case a__law_same => first | k_is | rfl); (case l__law_same => first | k_is | rfl); (case c__law_same => first | k_is | rfl); (case k__law_same => first | k_is | rfl)
    (case a__law_below => first | k_is | rfl); (case l__law_below => first | k_is | rfl); (case c__law_below => first | k_is | rfl); (case k__law_below => first | k_is | rfl); (case a__law_given => first | k_is | rfl); (case l__law_given => first | k_is | rfl); (case c__law_given => first | k_is | rfl); (case k__law_given => first | k_is | rfl)
    (case a__law_diamonds => first | k_is | rfl); (case l__law_diamonds => first | k_is | rfl); (case c__law_diamonds => first | k_is | rfl); (case k__law_diamonds => first | k_is | rfl); (case a__law_keeps => first | k_is | rfl); (case l__law_keeps => first | k_is | rfl); (case c__law_keeps => first | k_is | rfl); (case k__law_keeps => first | k_is | rfl)
    (case a__law_is_hive => first | k_is | rfl); (case l__law_is_hive => first | k_is | rfl); (case c__law_is_hive => first | k_is | rfl); (case k__law_is_hive => first | k_is | rfl); (case a__law_border => first | k_is | rfl); (case l__law_border => first | k_is | rfl); (case c__law_border => first | k_is | rfl); (case k__law_border => first | k_is | rfl)
    (case a__law_turned => first | k_is | rfl); (case l__law_turned => first | k_is | rfl); (case c__law_turned => first | k_is | rfl); (case k__law_turned => first | k_is | rfl); (case a__law_fall => first | k_is | rfl); (case l__law_fall => first | k_is | rfl); (case c__law_fall => first | k_is | rfl); (case k__law_fall => first | k_is | rfl)
    (case a__law_straight => first | k_is | rfl); (case l__law_straight => first | k_is | rfl); (case c__law_straight => first | k_is | rfl); (case k__law_straight => first | k_is | rfl); (case a__law_hive_sum => first | k_is | rfl); (case l__law_hive_sum => first | k_is | rfl); (case c__law_hive_sum => first | k_is | rfl); (case k__law_hive_sum => first | k_is | rfl)
    (case a__law_some_hive => first | k_is | rfl); (case l__law_some_hive => first | k_is | rfl); (case c__law_some_hive => first | k_is | rfl); (case k__law_some_hive => first | k_is | rfl); (case a__law_raised => first | k_is | rfl); (case l__law_raised => first | k_is | rfl); (case c__law_raised => first | k_is | rfl); (case k__law_raised => first | k_is | rfl)
    (case a__law_handed => first | k_is | rfl); (case l__law_handed => first | k_is | rfl); (case c__law_handed => first | k_is | rfl); (case k__law_handed => first | k_is | rfl); (case a__law_spoilt => first | k_is | rfl); (case l__law_spoilt => first | k_is | rfl); (case c__law_spoilt => first | k_is | rfl); (case k__law_spoilt => first | k_is | rfl)
    (case a_law => first | k_is | rfl); (case l_law => first | k_is | rfl); (case c_law => first | k_is | rfl); (case k_law => first | k_is | rfl); (case z_all => first | k_is | rfl); (case z_any => first | k_is | rfl); (case z_bool => first | k_is | rfl); (case z_enumerate => first | k_is | rfl)
    (case z_int => first | k_is | rfl); (case z_isinstance => first | k_is | rfl); (case z_len => first | k_is | rfl); (case z_list => first | k_is | rfl); (case z_range => first | k_is | rfl); (case z_sorted => first | k_is | rfl); (case z_str => first | k_is | rfl); (case z_sum => first | k_is | rfl)
    (case z_tuple => first | k_is | rfl); (case v_MOST => first | k_is | rfl); (case a_ShapeError => first | k_is | rfl); (case a_BadHive => first | k_is | rfl); (case q_ShapeError => k_exc); (case kp_ShapeError => first | k_is | rfl); (case sb_ShapeError => first | k_is | rfl); (case tp_ShapeError => first | k_is | rfl)
    (case h1_ShapeError => first | k_is | rfl); (case h2_ShapeError => first | k_is | rfl); (case h3_ShapeError => first | k_is | rfl); (case h4_ShapeError => first | k_is | rfl); (case h5_ShapeError => first | k_is | rfl); (case h6_ShapeError => first | k_is | rfl); (case h7_ShapeError => first | k_is | rfl); (case q_BadHive => k_exc)
    (case kp_BadHive => first | k_is | rfl); (case sb_BadHive => first | k_is | rfl); (case tp_BadHive => first | k_is | rfl); (case h1_BadHive => first | k_is | rfl); (case h2_BadHive => first | k_is | rfl); (case h3_BadHive => first | k_is | rfl); (case h4_BadHive => first | k_is | rfl); (case h5_BadHive => first | k_is | rfl)
    (case h6_BadHive => first | k_is | rfl); (case h7_BadHive => first | k_is | rfl); (case i_ShapeError => first | k_is | rfl); (case s_BadHive_ShapeError => first | k_is | rfl)

